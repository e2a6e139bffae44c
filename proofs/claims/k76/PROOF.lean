import PyProof.Rows.All
import Wide.All
import OpenK.AllK
import Wide.FinOn
import HandS.ForMost
import HandS.ForExc
import HandS.CallSlots
import HandS.ExcInit
import KE.KDictCopyH
import HandS.Deep
import HandS.TupAny
import HandS.Wide
import HandS.Style
import HandS.Codes
import HandS.IsInst
import HandS.TupLen
import HandS.Conv
import PyProof.Rows.ReprR
import PyProof.CallFns
import HandS.Comp
import HandS.Iter
import HandS.Words
import HandS.EndBits
import HandS.ExcOwn
import HandS.ExcIs
import HandS.ExcField
import KE.KExcSuper
import HandS.NoneIn
import HandS.Small
import HandS.More
import KE.KDictPairs
import KE.KDictList
import KE.GoesMore
import KE.GoesNew
import HandS.Zip
import PySem.Challenge.RW_heapworks_k76_deeds_that_clash
set_option Elab.async false
set_option linter.all false
set_option maxRecDepth 100000
set_option maxHeartbeats 4000000
/-! The data layer: what a def does, told by a function over plain values and a list of objects. -/
namespace PD
open PySem PySem.Spec PyProof.Rows L2

/-- a plain value: tuples and frozen lists by their items; scr: a locked list, or one of the written part; ref: an object that may change, by its place; adr: a thing of the written part; exc: a caught error; dic: a dict of whole numbers and None that is not changed -/
inductive U where
  | non | bl (b : Bool) | int (i : Int) | str (x : Str) | tup (xs : List U) | lst (xs : List U) | scr (xs : List U) | ref (n : Nat) | adr (a : Addr) | exc (C : Addr) (v : U) | dic (ks : List (Option Int)) (xs : List U)

/-- an object that may change -/
inductive O where
  | lst (xs : List U)
  | dk (kvs : List (Key × U))
  | dt (kvs : List (List Key × U))
  | ins (C : Addr) (fs : List (Str × U))
abbrev IH := List O

/-- where the objects that may change stand, by their places; and places that are kept for what is being built -/
structure Mm where
  o : List Addr
  x : List Addr
def Mm.add (m : Mm) (a : Addr) : Mm := ⟨m.o ++ [a], m.x⟩
def Mm.hold (m : Mm) (a : Addr) : Mm := ⟨m.o, a :: m.x⟩
/-- what stands at a, and is neither -/
structure At (m : Mm) (H : Hp) (a : Addr) (o : HO) : Prop where
  h : H a = some o
  no : a ∉ m.o
  nx : a ∉ m.x
/-- at a: a caught error of the class at C, its fields at d -/
def cau (a C d : Addr) : HO := .ext fun h => ∃ (o : Obj) (vs : Array Value), h.get? a = some o ∧ o.cls = .ref C ∧ o.dict = some d ∧ o.data = .fields vs
def lfK : Option Int → PySem.Leaf
  | none => .none
  | some i => .num i
/-- at a: a dict with keys among whole numbers and None -/
def ldO (a : Addr) (kws : List (Option Int × V)) : HO := .ext fun h => ∀ (P : Program) (w : World), ∃ vs : List (PySem.Leaf × Value), Paired (fun p q => lfK p.1 = q.1 ∧ RelV p.2 q.2) kws vs ∧ h.DictOf (PySem.leafKind P w) a vs
def TupA (K : PySem.W.Frag) (m : Mm) (H : Hp) (a : Addr) (ys : List V) : Prop :=
  At m H a (.tup ys) ∨ ∃ (o : Obj) (its : Array Value) (n : Nat), K.lookup a = some o ∧ o.cls = .type "tuple" ∧ o.data = .seq its n ∧ its.size ≤ sizeLine ∧ Vals ys its.toList
def ScrA (K : PySem.W.Frag) (m : Mm) (H : Hp) (a : Addr) (ys : List V) : Prop :=
  (∃ ob, At m H a (.frz ob (.lst ys))) ∨
    ∃ (o : Obj) (its : Array Value) (n : Nat), K.lookup a = some o ∧ o.cls = .type "list" ∧ o.dict = none ∧ o.data = .seq its n ∧ its.size ≤ sizeLine ∧ Vals ys its.toList
theorem TupA.sq {K : PySem.W.Frag} {m : Mm} {H : Hp} {a : Addr} {ys : List V} (h : TupA K m H a ys) : SqT K H a ys := by
  rcases h with h | h
  · exact .inl (.inl h.h)
  · exact .inr h
theorem ScrA.sq {K : PySem.W.Frag} {m : Mm} {H : Hp} {a : Addr} {ys : List V} (h : ScrA K m H a ys) : SqL K H a ys := by
  rcases h with ⟨ob, h⟩ | h
  · exact .inl (.inr ⟨ob, h.h⟩)
  · exact .inr h

mutual
/-- a plain value and its value of the layer -/
def RU (K : PySem.W.Frag) (m : Mm) (H : Hp) : U → V → Prop
  | .non, v => v = .non
  | .bl b, v => v = .bl b
  | .int i, v => v = .int i
  | .str x, v => v = .str x
  | .tup xs, v => ∃ a ys, v = .ref a ∧ TupA K m H a ys ∧ RUs K m H xs ys
  | .lst xs, v => ∃ a ys, v = .ref a ∧ At m H a (.lst ys) ∧ RUs K m H xs ys
  | .scr xs, v => ∃ a ys, v = .ref a ∧ ScrA K m H a ys ∧ RUs K m H xs ys
  | .ref n, v => ∃ a, v = .ref a ∧ m.o[n]? = some a
  | .adr a, v => v = .ref a
  | .dic ks xs, v => ∃ a ys, v = .ref a ∧ ks.length = ys.length ∧ At m H a (ldO a (ks.zip ys)) ∧ RUs K m H xs ys
  | .exc C u, v => ∃ a d y, v = .ref a ∧ At m H a (cau a C d) ∧ At m H d (.xd [("value", y)]) ∧ RU K m H u y
def RUs (K : PySem.W.Frag) (m : Mm) (H : Hp) : List U → List V → Prop
  | [], ys => ys = []
  | x :: xs, ys => ∃ y r, ys = y :: r ∧ RU K m H x y ∧ RUs K m H xs r
end

/-- how the layer's heap may go on: objects that may change come to it, what else stands stays -/
structure Fr (m : Mm) (H : Hp) (m' : Mm) (H' : Hp) : Prop where
  pre : ∃ e, m'.o = m.o ++ e ∧ ∀ a ∈ e, H a = none
  px : m'.x = m.x
  keep : ∀ a o, H a = some o → a ∉ m.o → H' a = some o
  live : ∀ a, H a ≠ none → H' a ≠ none
/-- .. and what stands at a kept place may change -/
structure Fw (m : Mm) (H : Hp) (m' : Mm) (H' : Hp) : Prop where
  pre : ∃ e, m'.o = m.o ++ e ∧ ∀ a ∈ e, H a = none
  px : ∀ a ∈ m'.x, a ∈ m.x ∨ H a = none
  keep : ∀ a o, H a = some o → a ∉ m.o → a ∉ m.x → H' a = some o
  live : ∀ a, H a ≠ none → H' a ≠ none
section
variable {m m' m1 m2 : Mm} {H H' H1 H2 : Hp}
theorem Fr.w (f : Fr m H m' H') : Fw m H m' H' := ⟨f.pre, fun a h => .inl (by rw [← f.px]; exact h), fun a o e n _ => f.keep a o e n, f.live⟩
theorem Fr.refl : Fr m H m H := ⟨⟨[], by simp, by simp⟩, rfl, fun _ _ h _ => h, fun _ h => h⟩
theorem Fw.refl : Fw m H m H := Fr.refl.w
theorem out_of {e : List Addr} (p : m'.o = m.o ++ e) (he : ∀ a ∈ e, H a = none) {a : Addr} (h : H a ≠ none) (n : a ∉ m.o) : a ∉ m'.o := by
  rw [p]
  intro z
  rcases List.mem_append.mp z with z | z
  · exact n z
  · exact h (he a z)
theorem Fr.out (f : Fr m H m' H') {a : Addr} (h : H a ≠ none) (n : a ∉ m.o) : a ∉ m'.o := let ⟨_, p, he⟩ := f.pre; out_of p he h n
theorem Fw.out (f : Fw m H m' H') {a : Addr} (h : H a ≠ none) (n : a ∉ m.o) : a ∉ m'.o := let ⟨_, p, he⟩ := f.pre; out_of p he h n
theorem pre_trans (live : ∀ a, H a ≠ none → H1 a ≠ none) (p : ∃ e, m1.o = m.o ++ e ∧ ∀ a ∈ e, H a = none) (q : ∃ e, m2.o = m1.o ++ e ∧ ∀ a ∈ e, H1 a = none) : ∃ e, m2.o = m.o ++ e ∧ ∀ a ∈ e, H a = none := by
  obtain ⟨e, e1, he⟩ := p
  obtain ⟨d, d1, hd⟩ := q
  refine ⟨e ++ d, by rw [d1, e1, List.append_assoc], fun a ha => ?_⟩
  rcases List.mem_append.mp ha with ha | ha
  · exact he a ha
  · cases q : H a with
    | none => rfl
    | some o => exact absurd (hd a ha) (live a (by rw [q]; simp))
theorem Fr.trans (f : Fr m H m1 H1) (g : Fr m1 H1 m2 H2) : Fr m H m2 H2 :=
  ⟨pre_trans f.live f.pre g.pre, g.px.trans f.px, fun a o h n => g.keep a o (f.keep a o h n) (f.out (by rw [h]; simp) n), fun a h => g.live a (f.live a h)⟩
theorem Fw.trans (f : Fw m H m1 H1) (g : Fw m1 H1 m2 H2) : Fw m H m2 H2 := by
  have nx : ∀ a, H a ≠ none → a ∉ m.x → a ∉ m1.x := fun a h n z => (f.px a z).elim n h
  refine ⟨pre_trans f.live f.pre g.pre, fun a z => ?_, fun a o h n q => g.keep a o (f.keep a o h n q) (f.out (by rw [h]; simp) n) (nx a (by rw [h]; simp) q), fun a h => g.live a (f.live a h)⟩
  rcases g.px a z with z | z
  · exact f.px a z
  · refine .inr ?_
    cases q : H a with
    | none => rfl
    | some o => exact absurd z (f.live a (by rw [q]; simp))
theorem Fw.at_ (f : Fw m H m' H') {a : Addr} {o : HO} (h : At m H a o) : At m' H' a o :=
  ⟨f.keep a o h.h h.no h.nx, f.out (by rw [h.h]; simp) h.no, fun z => (f.px a z).elim h.nx (by rw [h.h]; simp)⟩
theorem Fw.tup {K : PySem.W.Frag} (f : Fw m H m' H') {a : Addr} {ys : List V} (h : TupA K m H a ys) : TupA K m' H' a ys := by
  rcases h with h | h
  · exact .inl (f.at_ h)
  · exact .inr h
theorem Fw.scr {K : PySem.W.Frag} (f : Fw m H m' H') {a : Addr} {ys : List V} (h : ScrA K m H a ys) : ScrA K m' H' a ys := by
  rcases h with ⟨ob, h⟩ | h
  · exact .inl ⟨ob, f.at_ h⟩
  · exact .inr h
theorem Fw.get (f : Fw m H m' H') {n : Nat} {a : Addr} (h : m.o[n]? = some a) : m'.o[n]? = some a := by
  obtain ⟨e, p, _⟩ := f.pre
  obtain ⟨hl, _⟩ := List.getElem?_eq_some_iff.mp h
  rw [p, List.getElem?_append_left hl]; exact h
end

/-- all that the plain values lean on -/
structure Fz (m : Mm) (H : Hp) (m' : Mm) (H' : Hp) : Prop where
  at_ : ∀ {a o}, At m H a o → At m' H' a o
  get : ∀ {n : Nat} {a : Addr}, m.o[n]? = some a → m'.o[n]? = some a
theorem Fw.z {m m' : Mm} {H H' : Hp} (f : Fw m H m' H') : Fz m H m' H' := ⟨f.at_, f.get⟩
theorem Fz.tup {K : PySem.W.Frag} {m m' : Mm} {H H' : Hp} (f : Fz m H m' H') {a : Addr} {ys : List V} (h : TupA K m H a ys) : TupA K m' H' a ys := by
  rcases h with h | h
  · exact .inl (f.at_ h)
  · exact .inr h
theorem Fz.scr {K : PySem.W.Frag} {m m' : Mm} {H H' : Hp} (f : Fz m H m' H') {a : Addr} {ys : List V} (h : ScrA K m H a ys) : ScrA K m' H' a ys := by
  rcases h with ⟨ob, h⟩ | h
  · exact .inl ⟨ob, f.at_ h⟩
  · exact .inr h
mutual
theorem RU.stepz {K : PySem.W.Frag} {m m' : Mm} {H H' : Hp} (f : Fz m H m' H') : ∀ {u : U} {v : V}, RU K m H u v → RU K m' H' u v
  | .non, _, h => h
  | .bl _, _, h => h
  | .int _, _, h => h
  | .str _, _, h => h
  | .tup xs, _, h => by
    unfold RU at h ⊢
    obtain ⟨a, ys, e, t, r⟩ := h
    exact ⟨a, ys, e, f.tup t, RUs.stepz f r⟩
  | .lst xs, _, h => by
    unfold RU at h ⊢
    obtain ⟨a, ys, e, t, r⟩ := h
    exact ⟨a, ys, e, f.at_ t, RUs.stepz f r⟩
  | .scr xs, _, h => by
    unfold RU at h ⊢
    obtain ⟨a, ys, e, t, r⟩ := h
    exact ⟨a, ys, e, f.scr t, RUs.stepz f r⟩
  | .ref n, _, h => by
    unfold RU at h ⊢
    obtain ⟨a, e, q⟩ := h
    exact ⟨a, e, f.get q⟩
  | .adr _, _, h => h
  | .dic ks xs, _, h => by
    unfold RU at h ⊢
    obtain ⟨a, ys, e, l, t, r⟩ := h
    exact ⟨a, ys, e, l, f.at_ t, RUs.stepz f r⟩
  | .exc C u, _, h => by
    unfold RU at h ⊢
    obtain ⟨a, d, y, e, h1, h2, r⟩ := h
    exact ⟨a, d, y, e, f.at_ h1, f.at_ h2, RU.stepz f r⟩
theorem RUs.stepz {K : PySem.W.Frag} {m m' : Mm} {H H' : Hp} (f : Fz m H m' H') : ∀ {us : List U} {vs : List V}, RUs K m H us vs → RUs K m' H' us vs
  | [], _, h => h
  | x :: xs, _, h => by
    unfold RUs at h ⊢
    obtain ⟨y, r, e, h1, h2⟩ := h
    exact ⟨y, r, e, RU.stepz f h1, RUs.stepz f h2⟩
end
theorem RU.stepw {K : PySem.W.Frag} {m m' : Mm} {H H' : Hp} (f : Fw m H m' H') {u : U} {v : V} (h : RU K m H u v) : RU K m' H' u v := h.stepz f.z
theorem RUs.stepw {K : PySem.W.Frag} {m m' : Mm} {H H' : Hp} (f : Fw m H m' H') {u : List U} {v : List V} (h : RUs K m H u v) : RUs K m' H' u v := h.stepz f.z
theorem RU.step {K : PySem.W.Frag} {m m' : Mm} {H H' : Hp} (f : Fr m H m' H') {u : U} {v : V} (h : RU K m H u v) : RU K m' H' u v := h.stepw f.w
theorem RUs.step {K : PySem.W.Frag} {m m' : Mm} {H H' : Hp} (f : Fr m H m' H') {u : List U} {v : List V} (h : RUs K m H u v) : RUs K m' H' u v := h.stepw f.w
end PD

set_option Elab.async false
set_option linter.all false
set_option maxRecDepth 100000
set_option maxHeartbeats 4000000
namespace PD
open PySem PySem.Spec PyProof.Rows L2

/-- what an object that may change has, and what the layer's object has -/
def Con (K : PySem.W.Frag) (m : Mm) (H : Hp) : O → HO → Prop
  | .lst xs, o => ∃ ys, o = .lst ys ∧ RUs K m H xs ys
  | .dk kvs, o => ∃ kws, o = .dK kws ∧ kvs.map (·.1) = kws.map (·.1) ∧ RUs K m H (kvs.map (·.2)) (kws.map (·.2))
  | .dt kvs, o => ∃ kws, o = .dT kws ∧ kvs.map (·.1) = kws.map (·.1) ∧ RUs K m H (kvs.map (·.2)) (kws.map (·.2))
  | .ins C fs, o => ∃ dx gs, o = .ins C dx gs ∧ fs.map (·.1) = gs.map (·.1) ∧ RUs K m H (fs.map (·.2)) (gs.map (·.2))
def RO (K : PySem.W.Frag) (m : Mm) (H : Hp) (a : Addr) (o : O) : Prop := ∃ ho, H a = some ho ∧ Con K m H o ho
theorem Con.stepz {K : PySem.W.Frag} {m m' : Mm} {H H' : Hp} (f : Fz m H m' H') {o : O} {ho : HO} (h : Con K m H o ho) : Con K m' H' o ho := by
  cases o with
  | lst xs => obtain ⟨ys, e, r⟩ := h; exact ⟨ys, e, r.stepz f⟩
  | dk kvs => obtain ⟨kws, e, q, r⟩ := h; exact ⟨kws, e, q, r.stepz f⟩
  | dt kvs => obtain ⟨kws, e, q, r⟩ := h; exact ⟨kws, e, q, r.stepz f⟩
  | ins C fs => obtain ⟨dx, gs, e, q, r⟩ := h; exact ⟨dx, gs, e, q, r.stepz f⟩
theorem Con.stepw {K : PySem.W.Frag} {m m' : Mm} {H H' : Hp} (f : Fw m H m' H') {o : O} {ho : HO} (h : Con K m H o ho) : Con K m' H' o ho := h.stepz f.z
theorem Con.step {K : PySem.W.Frag} {m m' : Mm} {H H' : Hp} (f : Fr m H m' H') {o : O} {ho : HO} (h : Con K m H o ho) : Con K m' H' o ho := h.stepw f.w
structure Sim (K : PySem.W.Frag) (m : Mm) (h : IH) (H : Hp) : Prop where
  nd : m.o.Nodup
  len : m.o.length = h.length
  obj : ∀ (n : Nat) (a : Addr) (o : O), m.o[n]? = some a → h[n]? = some o → RO K m H a o
  rx : ∀ a ∈ m.x, H a ≠ none

abbrev Env := List (Option U)
structure RE (K : PySem.W.Frag) (m : Mm) (H : Hp) (ρ : Env) (σ : L2.St) : Prop where
  len : ρ.length = σ.length
  at_ : ∀ (i : Nat) (u : U), ρ[i]? = some (some u) → ∃ v, σ[i]? = some (some v) ∧ RU K m H u v

/-- a run's end: a value and the objects; an error that leaves, of a class, with its value; or nothing is known -/
inductive R (α : Type) where
  | ok (a : α) (h : IH) | exc (C : Addr) (u : U) (h : IH) | bad
def R.bind {α β : Type} (r : R α) (k : α → IH → R β) : R β := match r with
  | .ok a h => k a h
  | .exc C u h => .exc C u h
  | .bad => .bad
@[simp] theorem R.bind_ok {α β : Type} (a : α) (h : IH) (k : α → IH → R β) : (R.ok a h).bind k = k a h := rfl
@[simp] theorem R.bind_exc {α β : Type} (C : Addr) (u : U) (h : IH) (k : α → IH → R β) : (R.exc C u h : R α).bind k = .exc C u h := rfl
@[simp] theorem R.bind_bad {α β : Type} (k : α → IH → R β) : (R.bad : R α).bind k = .bad := rfl

section
variable {K : PySem.W.Frag} {m m' : Mm} {H H' : Hp} {h h' : IH} {α β : Type}
def Post (K : PySem.W.Frag) (m : Mm) (H : Hp) (r : R α) (Q : α → IH → Mm → Hp → Prop) (W : Addr → U → IH → Mm → Hp → Prop) : Prop := match r with
  | .ok a h' => ∀ m' H', Fr m H m' H' → Sim K m' h' H' → Q a h' m' H'
  | .exc C u h' => ∀ m' H', Fr m H m' H' → Sim K m' h' H' → W C u h' m' H'
  | .bad => False
theorem Post.bind {r : R α} {k : α → IH → R β} {Q : β → IH → Mm → Hp → Prop} {W : Addr → U → IH → Mm → Hp → Prop}
    (p : Post K m H (r.bind k) Q W) : Post K m H r (fun a h1 m1 H1 => Post K m1 H1 (k a h1) Q W) W := by
  cases r with
  | ok a h1 =>
    intro m1 H1 f1 s1
    have p : Post K m H (k a h1) Q W := p
    show Post K m1 H1 (k a h1) Q W
    cases q : k a h1 with
    | ok b h2 =>
      rw [q] at p
      exact fun m2 H2 f2 s2 => p m2 H2 (f1.trans f2) s2
    | exc C u h2 =>
      rw [q] at p
      exact fun m2 H2 f2 s2 => p m2 H2 (f1.trans f2) s2
    | bad => rw [q] at p; exact p
  | exc C u h1 => exact p
  | bad => exact p
theorem Post.mono {r : R α} {Q Q' : α → IH → Mm → Hp → Prop} {W W' : Addr → U → IH → Mm → Hp → Prop}
    (p : Post K m H r Q W) (hQ : ∀ a h1 m1 H1, Fr m H m1 H1 → Sim K m1 h1 H1 → Q a h1 m1 H1 → Q' a h1 m1 H1)
    (hW : ∀ C u h1 m1 H1, Fr m H m1 H1 → Sim K m1 h1 H1 → W C u h1 m1 H1 → W' C u h1 m1 H1) : Post K m H r Q' W' := by
  cases r with
  | ok a h1 => exact fun m1 H1 f s => hQ a h1 m1 H1 f s (p m1 H1 f s)
  | exc C u h1 => exact fun m1 H1 f s => hW C u h1 m1 H1 f s (p m1 H1 f s)
  | bad => exact p
theorem Post.here {a : α} {Q : α → IH → Mm → Hp → Prop} {W : Addr → U → IH → Mm → Hp → Prop} (p : Post K m H (.ok a h) Q W) (s : Sim K m h H) : Q a h m H := p m H Fr.refl s
theorem RE.stepw {ρ : Env} {σ : L2.St} (f : Fw m H m' H') (r : RE K m H ρ σ) : RE K m' H' ρ σ := ⟨r.len, fun i u e => let ⟨v, e1, q⟩ := r.at_ i u e; ⟨v, e1, q.stepw f⟩⟩
theorem RE.step {ρ : Env} {σ : L2.St} (f : Fr m H m' H') (r : RE K m H ρ σ) : RE K m' H' ρ σ := r.stepw f.w
theorem RE.set {ρ : Env} {σ : L2.St} {u : U} {v : V} (r : RE K m H ρ σ) (i : Nat) (q : RU K m H u v) : RE K m H (ρ.set i (some u)) (σ.set i (some v)) := by
  refine ⟨by simp [r.len], fun j w e => ?_⟩
  by_cases hj : i = j
  · subst hj
    by_cases hi : i < ρ.length
    · rw [List.getElem?_set_self hi] at e
      cases e
      exact ⟨v, by rw [List.getElem?_set_self (by rw [← r.len]; exact hi)], q⟩
    · rw [List.getElem?_eq_none (by simpa using hi)] at e; cases e
  · rw [List.getElem?_set_ne hj] at e
    obtain ⟨v', e', q'⟩ := r.at_ j w e
    exact ⟨v', by rw [List.getElem?_set_ne hj]; exact e', q'⟩
theorem RE.unset {ρ : Env} {σ : L2.St} (r : RE K m H ρ σ) (i : Nat) : RE K m H (ρ.set i none) (σ.set i none) := by
  refine ⟨by simp [r.len], fun j w e => ?_⟩
  by_cases hj : i = j
  · subst hj
    by_cases hi : i < ρ.length
    · rw [List.getElem?_set_self hi] at e; cases e
    · rw [List.getElem?_eq_none (by simpa using hi)] at e; cases e
  · rw [List.getElem?_set_ne hj] at e
    obtain ⟨v', e', q'⟩ := r.at_ j w e
    exact ⟨v', by rw [List.getElem?_set_ne hj]; exact e', q'⟩

theorem Sim.live (s : Sim K m h H) {a : Addr} (ha : a ∈ m.o) : H a ≠ none := by
  obtain ⟨n, hn, e⟩ := List.getElem_of_mem ha
  have q : m.o[n]? = some a := by rw [List.getElem?_eq_getElem hn, e]
  obtain ⟨ho, e2, _⟩ := s.obj n a (h[n]'(by rw [← s.len]; exact hn)) q (List.getElem?_eq_getElem _)
  rw [e2]; simp
theorem Sim.fresh (s : Sim K m h H) {p : Addr} (hp : H p = none) : p ∉ m.o := fun z => s.live z hp
theorem Sim.gow (s : Sim K m h H) (f : Fw m H m H') (k : ∀ a ∈ m.o, H' a = H a) : Sim K m h H' := ⟨s.nd, s.len, fun n a o e1 e2 => by
  obtain ⟨ho, e, c⟩ := s.obj n a o e1 e2
  exact ⟨ho, by rw [k a (List.mem_of_getElem? e1)]; exact e, c.stepw f⟩, fun a z => f.live a (s.rx a z)⟩
theorem Sim.go (s : Sim K m h H) (f : Fr m H m H') (k : ∀ a ∈ m.o, H' a = H a) : Sim K m h H' := s.gow f.w k
/-- a thing laid that does not change -/
theorem Fr.new {p : Addr} {o : HO} (hp : H p = none) : Fr m H m (upd H p o) :=
  ⟨⟨[], by simp, by simp⟩, rfl, fun a u e _ => by rw [upd_ne (ne_of_none e hp)]; exact e, fun a e => by
    by_cases q : a = p
    · subst q; exact absurd hp e
    · rw [upd_ne q]; exact e⟩
theorem Sim.new (s : Sim K m h H) {p : Addr} {o : HO} (hp : H p = none) : Sim K m h (upd H p o) := s.go (Fr.new hp) fun a ha => upd_ne fun z => s.fresh hp (z ▸ ha)
theorem at_new {p : Addr} {o : HO} (s : Sim K m h H) (hp : H p = none) : At m (upd H p o) p o := ⟨upd_same, s.fresh hp, fun z => s.rx p z hp⟩
/-- an object laid that may change -/
theorem Fr.add {p : Addr} {o : HO} (hp : H p = none) : Fr m H (m.add p) (upd H p o) :=
  ⟨⟨[p], rfl, by simpa using hp⟩, rfl, (Fr.new (m := m) hp).keep, (Fr.new (m := m) hp).live⟩
theorem Mm.add_get {p : Addr} {n : Nat} (e : n = m.o.length) : (m.add p).o[n]? = some p := by
  subst e
  show (m.o ++ [p])[m.o.length]? = some p
  rw [List.getElem?_append_right (Nat.le_refl _)]
  simp
theorem Sim.add (s : Sim K m h H) {p : Addr} {ho : HO} {o : O} (hp : H p = none) (c : Con K m H o ho) : Sim K (m.add p) (h ++ [o]) (upd H p ho) := by
  have f : Fr m H (m.add p) (upd H p ho) := Fr.add hp
  refine ⟨List.nodup_append.mpr ⟨s.nd, by simp, fun a ha b hb z => ?_⟩, by simp [Mm.add, s.len], fun n a u e1 e2 => ?_, fun a z => f.live a (s.rx a z)⟩
  · have : b = p := by simpa using hb
    exact s.fresh hp (this ▸ z ▸ ha)
  · have e1 : (m.o ++ [p])[n]? = some a := e1
    by_cases hn : n < m.o.length
    · rw [List.getElem?_append_left hn] at e1
      rw [List.getElem?_append_left (by rw [← s.len]; exact hn)] at e2
      obtain ⟨hu, e, c'⟩ := s.obj n a u e1 e2
      exact ⟨hu, by rw [upd_ne (ne_of_none e hp)]; exact e, c'.step f⟩
    · have hn' : n = m.o.length := by
        have := (List.getElem?_eq_some_iff.mp e1).1
        simp at this; omega
      subst hn'
      rw [List.getElem?_append_right (Nat.le_refl _)] at e1
      rw [s.len, List.getElem?_append_right (Nat.le_refl _)] at e2
      simp at e1 e2
      subst e1 e2
      exact ⟨ho, upd_same, c.step f⟩
/-- an object changed -/
theorem Fr.put {a : Addr} {o : HO} (ha : a ∈ m.o) : Fr m H m (upd H a o) :=
  ⟨⟨[], by simp, by simp⟩, rfl, fun b u e n => by rw [upd_ne (show b ≠ a from fun z => n (by rw [z]; exact ha))]; exact e, fun b e => by
    by_cases q : b = a
    · subst q; rw [upd_same]; simp
    · rw [upd_ne q]; exact e⟩
theorem Sim.put (s : Sim K m h H) {n : Nat} {a : Addr} {ho : HO} {o : O} (e : m.o[n]? = some a) (c : Con K m H o ho) : Sim K m (h.set n o) (upd H a ho) := by
  have f : Fr m H m (upd H a ho) := Fr.put (List.mem_of_getElem? e)
  refine ⟨s.nd, by simp [s.len], fun j b u e1 e2 => ?_, fun a z => f.live a (s.rx a z)⟩
  by_cases hj : n = j
  · subst hj
    rw [e] at e1; cases e1
    rw [List.getElem?_set_self (by rw [← s.len]; exact (List.getElem?_eq_some_iff.mp e).1)] at e2
    cases e2
    exact ⟨ho, upd_same, c.step f⟩
  · rw [List.getElem?_set_ne hj] at e2
    obtain ⟨hu, e3, c'⟩ := s.obj j b u e1 e2
    refine ⟨hu, ?_, c'.step f⟩
    rw [upd_ne]
    · exact e3
    · rintro rfl
      obtain ⟨h1, q1⟩ := List.getElem?_eq_some_iff.mp e
      obtain ⟨h2, q2⟩ := List.getElem?_eq_some_iff.mp e1
      exact hj ((List.getElem_inj s.nd).mp (q1.trans q2.symm))
/-! ### what an expression, a test, a statement says -/
abbrev EM := Env → IH → R U
abbrev BM := Env → IH → R Bool
abbrev AM := Env → IH → R (List U)
/-- an error's wish of the layer, at the slots σ -/
abbrev exW (K : PySem.W.Frag) (W : WX) (σ : L2.St) : Addr → U → IH → Mm → Hp → Prop := fun C u _ m' H' => ∀ d v, At m' H' d (.xd [("value", v)]) → RU K m' H' u v → W (.ref C) (some d) σ H'
def TEi (K : PySem.W.Frag) (W : WX) (f : EM) : TE := fun σ H Q => ∃ ρ m h, RE K m H ρ σ ∧ Sim K m h H ∧
  Post K m H (f ρ h) (fun u _ m' H' => ∀ v, RU K m' H' u v → Q v H') (exW K W σ)
def TTi (K : PySem.W.Frag) (W : WX) (f : BM) : TT := fun σ H Q => ∃ ρ m h, RE K m H ρ σ ∧ Sim K m h H ∧
  Post K m H (f ρ h) (fun b _ _ H' => Q b H') (exW K W σ)
def TAi (K : PySem.W.Frag) (W : WX) (f : AM) : TA := fun σ H Q => ∃ ρ m h, RE K m H ρ σ ∧ Sim K m h H ∧
  Post K m H (f ρ h) (fun us _ m' H' => ∀ vs, RUs K m' H' us vs → Q vs H') (exW K W σ)
inductive Fl where
  | nx (ρ : Env) | rt (u : U) | bk (ρ : Env) | ct (ρ : Env)
/-- a statement's end: how it goes on; an error, with the slots -/
inductive RS where
  | fl (f : Fl) (h : IH) | exc (C : Addr) (u : U) (ρ : Env) (h : IH) | bad
abbrev SM := Env → IH → RS
def PostS (K : PySem.W.Frag) (m : Mm) (H : Hp) (r : RS) (W : WX) (D : Ends) : Prop := match r with
  | .fl (.nx ρ) h' => ∀ m' H' σ', Fr m H m' H' → Sim K m' h' H' → RE K m' H' ρ σ' → D.nx σ' H'
  | .fl (.rt u) h' => ∀ m' H' v, Fr m H m' H' → Sim K m' h' H' → RU K m' H' u v → D.rt v H'
  | .fl (.bk ρ) h' => ∀ m' H' σ', Fr m H m' H' → Sim K m' h' H' → RE K m' H' ρ σ' → D.bk σ' H'
  | .fl (.ct ρ) h' => ∀ m' H' σ', Fr m H m' H' → Sim K m' h' H' → RE K m' H' ρ σ' → D.ct σ' H'
  | .exc C u ρ h' => ∀ m' H' σ' d v, Fr m H m' H' → Sim K m' h' H' → RE K m' H' ρ σ' → At m' H' d (.xd [("value", v)]) → RU K m' H' u v → W (.ref C) (some d) σ' H'
  | .bad => False
def TSi (K : PySem.W.Frag) (W : WX) (f : SM) : TS := fun D σ H => ∃ ρ m h, RE K m H ρ σ ∧ Sim K m h H ∧ PostS K m H (f ρ h) W D
theorem PostS.go {r : RS} {W : WX} {D : Ends} (f : Fr m H m' H') (p : PostS K m H r W D) : PostS K m' H' r W D := by
  cases r with
  | fl g h1 =>
    cases g with
    | nx ρ => exact fun m2 H2 σ f2 s2 r2 => p m2 H2 σ (f.trans f2) s2 r2
    | rt u => exact fun m2 H2 v f2 s2 r2 => p m2 H2 v (f.trans f2) s2 r2
    | bk ρ => exact fun m2 H2 σ f2 s2 r2 => p m2 H2 σ (f.trans f2) s2 r2
    | ct ρ => exact fun m2 H2 σ f2 s2 r2 => p m2 H2 σ (f.trans f2) s2 r2
  | exc C u ρ h1 => exact fun m2 H2 σ d v f2 s2 r2 a2 q2 => p m2 H2 σ d v (f.trans f2) s2 r2 a2 q2
  | bad => exact p
theorem Post.go {r : R α} {Q : α → IH → Mm → Hp → Prop} {W : Addr → U → IH → Mm → Hp → Prop} (f : Fr m H m' H') (p : Post K m H r Q W) : Post K m' H' r Q W := by
  cases r with
  | ok a h1 => exact fun m2 H2 f2 s2 => p m2 H2 (f.trans f2) s2
  | exc C u h1 => exact fun m2 H2 f2 s2 => p m2 H2 (f.trans f2) s2
  | bad => exact p
/-- an expression within a statement: its error has the statement's slots -/
def R.st {α : Type} (r : R α) (ρ : Env) (k : α → IH → RS) : RS := match r with
  | .ok a h => k a h
  | .exc C u h => .exc C u ρ h
  | .bad => .bad
@[simp] theorem R.st_ok {α : Type} (a : α) (h : IH) (ρ : Env) (k : α → IH → RS) : (R.ok a h).st ρ k = k a h := rfl
@[simp] theorem R.st_exc {α : Type} (C : Addr) (u : U) (h : IH) (ρ : Env) (k : α → IH → RS) : (R.exc C u h : R α).st ρ k = .exc C u ρ h := rfl
@[simp] theorem R.st_bad {α : Type} (ρ : Env) (k : α → IH → RS) : (R.bad : R α).st ρ k = .bad := rfl
theorem PostS.st {r : R α} {ρ : Env} {k : α → IH → RS} {W : WX} {D : Ends} {σ : L2.St} (re : RE K m H ρ σ) (p : PostS K m H (r.st ρ k) W D) :
    Post K m H r (fun a h1 m1 H1 => PostS K m1 H1 (k a h1) W D) (exW K W σ) := by
  cases r with
  | ok a h1 => exact fun m1 H1 f s => PostS.go f (show PostS K m H (k a h1) W D from p)
  | exc C u h1 => exact fun m1 H1 f s d v q r2 => p m1 H1 σ d v f s (re.step f) q r2
  | bad => exact p
end

/-! ### the judgements go over -/
section
variable {X : Cx} {e : Expr} {es : List Expr}
theorem PE.imp {t t' : TE} (p : PE X e t) (h : ∀ σ H Q, t' σ H Q → t σ H Q) : PE X e t' := ⟨fun pins s σ H Q I q => p.run pins s σ H Q I (h _ _ _ q)⟩
theorem PT.imp {t t' : TT} (p : PT X e t) (h : ∀ σ H Q, t' σ H Q → t σ H Q) : PT X e t' := ⟨fun pins s σ H Q I q => p.run pins s σ H Q I (h _ _ _ q)⟩
theorem PW.imp {t t' : TT} (p : PW X e t) (h : ∀ σ H Q, t' σ H Q → t σ H Q) : PW X e t' := ⟨fun wh pins s σ H Q I q => p.run wh pins s σ H Q I (h _ _ _ q)⟩
theorem PA.imp {t t' : TA} (p : PA X es t) (h : ∀ σ H Q, t' σ H Q → t σ H Q) : PA X es t' := ⟨fun pos pins s σ H Q I q => p.run pos pins s σ H Q I (h _ _ _ q)⟩
theorem PS.imp {st : Stmt} {t t' : TS} (p : PS X st t) (h : ∀ D σ H, t' D σ H → t D σ H) : PS X st t' := ⟨fun pins s σ H D I q => p.run pins s σ H D I (h _ _ _ q)⟩
theorem PSs.imp {st : List Stmt} {t t' : TS} (p : PSs X st t) (h : ∀ D σ H, t' D σ H → t D σ H) : PSs X st t' := ⟨fun pins s σ H D I q => p.run pins s σ H D I (h _ _ _ q)⟩
end

/-! ### names and constants -/
def vE (i : Nat) : EM := fun ρ h => match ρ[i]? with
  | some (some u) => .ok u h
  | _ => .bad
def cE (u : U) : EM := fun _ h => .ok u h
section
variable {X : Cx} {W : WX}
theorem ie_v {i : Nat} {x : Str} {pos : Pos} (hN : X.N[i]? = some x) (hv : Vis X.env.scope x) (hd : (x == ("__debug__" : Str)) = false := by decide) (hcd : (x == ("__classdict__" : Str)) = false := by decide) : PE X (.Name x pos) (TEi X.K W (vE i)) := by
  refine PE.imp (pe_var hN hv hd hcd) fun σ H Q ⟨ρ, m, h, re, sim, p⟩ => ?_
  unfold vE at p
  split at p
  · rename_i u q
    obtain ⟨v, e, r⟩ := re.at_ i u q
    exact ⟨v, e, p.here sim v r⟩
  · exact False.elim p
theorem ie_c {e : Expr} {u : U} {v : V} (he : PE X e (tC v)) (r : ∀ m H, RU X.K m H u v) : PE X e (TEi X.K W (cE u)) :=
  PE.imp he fun σ H Q ⟨ρ, m, h, re, sim, p⟩ => p.here sim v (r m H)
theorem ie_int {i j pos} : PE X (.Constant (.int i) j pos) (TEi X.K W (cE (.int i))) := ie_c pe_int fun _ _ => rfl
theorem ie_bl {b j pos} : PE X (.Constant (.bool b) j pos) (TEi X.K W (cE (.bl b))) := ie_c pe_bl fun _ _ => rfl
theorem ie_non {j pos} : PE X (.Constant .none j pos) (TEi X.K W (cE .non)) := ie_c pe_non fun _ _ => rfl
theorem ie_str {x j pos} : PE X (.Constant (.str x) j pos) (TEi X.K W (cE (.str x))) := ie_c pe_str fun _ _ => rfl
end
end PD

set_option Elab.async false
set_option linter.all false
set_option maxRecDepth 100000
set_option maxHeartbeats 4000000
namespace PD
open PySem PySem.Spec PyProof.Rows L2

/-! ### lists of plain values -/
section
variable {K : PySem.W.Frag} {m m' : Mm} {H H' : Hp} {h h' : IH}
theorem RUs.nil : RUs K m H [] [] := rfl
theorem RUs.cons {x : U} {xs : List U} {y : V} {ys : List V} (a : RU K m H x y) (b : RUs K m H xs ys) : RUs K m H (x :: xs) (y :: ys) := ⟨y, ys, rfl, a, b⟩
theorem RUs.length : ∀ {xs : List U} {ys : List V}, RUs K m H xs ys → xs.length = ys.length
  | [], _, h => by
    have e : _ = [] := h
    rw [e] <;> rfl
  | x :: xs, _, h => by
    obtain ⟨y, r, rfl, _, h2⟩ := h
    simp [RUs.length h2]
theorem RUs.get : ∀ {xs : List U} {ys : List V} {i : Nat} {x : U}, RUs K m H xs ys → xs[i]? = some x → ∃ y, ys[i]? = some y ∧ RU K m H x y
  | [], _, _, _, _, e => by simp at e
  | x :: xs, _, i, z, h, e => by
    obtain ⟨y, r, rfl, h1, h2⟩ := h
    cases i with
    | zero => simp at e; subst e; exact ⟨y, rfl, h1⟩
    | succ i =>
      obtain ⟨y', e', q⟩ := RUs.get (i := i) h2 (by simpa using e)
      exact ⟨y', by simpa using e', q⟩
theorem RUs.append : ∀ {xs ys : List U} {vs ws : List V}, RUs K m H xs vs → RUs K m H ys ws → RUs K m H (xs ++ ys) (vs ++ ws)
  | [], _, _, _, h, q => by
    have e : _ = [] := h
    rw [e]; exact q
  | x :: xs, _, _, _, h, q => by
    obtain ⟨y, r, rfl, h1, h2⟩ := h
    exact RUs.cons h1 (RUs.append h2 q)
theorem RUs.take : ∀ {xs : List U} {ys : List V} (n : Nat), RUs K m H xs ys → RUs K m H (xs.take n) (ys.take n)
  | [], _, n, h => by
    have e : _ = [] := h
    rw [e]; simp; exact RUs.nil
  | x :: xs, _, 0, h => by simp; exact RUs.nil
  | x :: xs, _, n + 1, h => by
    obtain ⟨y, r, rfl, h1, h2⟩ := h
    exact RUs.cons h1 (RUs.take n h2)
theorem RUs.drop : ∀ {xs : List U} {ys : List V} (n : Nat), RUs K m H xs ys → RUs K m H (xs.drop n) (ys.drop n)
  | [], _, n, h => by
    have e : _ = [] := h
    rw [e]; simp; exact RUs.nil
  | x :: xs, _, 0, h => by simpa using h
  | x :: xs, _, n + 1, h => by
    obtain ⟨y, r, rfl, h1, h2⟩ := h
    exact RUs.drop n h2
theorem RUs.reverse : ∀ {xs : List U} {ys : List V}, RUs K m H xs ys → RUs K m H xs.reverse ys.reverse
  | [], _, h => by
    have e : _ = [] := h
    rw [e]; exact RUs.nil
  | x :: xs, _, h => by
    obtain ⟨y, r, rfl, h1, h2⟩ := h
    rw [List.reverse_cons, List.reverse_cons]
    exact RUs.append (RUs.reverse h2) (RUs.cons h1 RUs.nil)
theorem RUs.set {x : U} {v : V} (q : RU K m H x v) : ∀ {xs : List U} {ys : List V} (i : Nat), RUs K m H xs ys → RUs K m H (xs.set i x) (ys.set i v)
  | [], _, i, h => by
    have e : _ = [] := h
    rw [e]; exact RUs.nil
  | x' :: xs, _, i, h => by
    obtain ⟨y, r, rfl, h1, h2⟩ := h
    cases i with
    | zero => exact RUs.cons q h2
    | succ i => exact RUs.cons h1 (RUs.set q i h2)
theorem RUs.dropLast {xs : List U} {ys : List V} (r : RUs K m H xs ys) : RUs K m H xs.dropLast ys.dropLast := by
  rw [List.dropLast_eq_take, List.dropLast_eq_take, ← r.length]
  exact r.take _
theorem RUs.eraseIdx : ∀ {xs : List U} {ys : List V} (i : Nat), RUs K m H xs ys → RUs K m H (xs.eraseIdx i) (ys.eraseIdx i)
  | [], _, i, h => by
    have e : _ = [] := h
    rw [e]; exact RUs.nil
  | x' :: xs, _, i, h => by
    obtain ⟨y, r, rfl, h1, h2⟩ := h
    cases i with
    | zero => exact h2
    | succ i => exact RUs.cons h1 (RUs.eraseIdx i h2)
theorem RUs.flat {n : Nat} {xs : List U} {ys : List V} (r : RUs K m H xs ys) : RUs K m H (List.replicate n xs).flatten (List.replicate n ys).flatten := by
  induction n with
  | zero => exact RUs.nil
  | succ n ih =>
    rw [List.replicate_succ, List.replicate_succ, List.flatten_cons, List.flatten_cons]
    exact r.append ih

/-- what is wanted of a value and the heap, of an operation's end -/
abbrev QU (K : PySem.W.Frag) (Q : VK) : U → IH → Mm → Hp → Prop := fun u _ m' H' => ∀ v, RU K m' H' u v → Q v H'
abbrev noW : Addr → U → IH → Mm → Hp → Prop := fun _ _ _ _ _ => False
/-- a new list: md, one that may change -/
def newL (md : Bool) (xs : List U) (h : IH) : R U := if xs.length ≤ sizeLine then (if md then .ok (.ref h.length) (h ++ [.lst xs]) else .ok (.lst xs) h) else .bad
def newT (xs : List U) (h : IH) : R U := if xs.length ≤ sizeLine then .ok (.tup xs) h else .bad
theorem newL_ok {md : Bool} {xs : List U} {ys : List V} {Q : VK} {W : Addr → U → IH → Mm → Hp → Prop} (s : Sim K m h H) (r : RUs K m H xs ys) (p : Post K m H (newL md xs h) (QU K Q) W) :
    ys.length ≤ sizeLine ∧ ∀ p, H p = none → Q (.ref p) (upd H p (.lst ys)) := by
  unfold newL at p
  split at p
  · rename_i hz
    refine ⟨by rw [← r.length]; exact hz, fun q hq => ?_⟩
    cases md with
    | true =>
      exact p (m.add q) _ (Fr.add hq) (s.add hq ⟨ys, rfl, r⟩) _ ⟨q, rfl, Mm.add_get s.len.symm⟩
    | false => exact p m _ (Fr.new hq) (s.new hq) _ ⟨q, ys, rfl, at_new s hq, r.step (Fr.new hq)⟩
  · exact False.elim p
theorem newT_ok {xs : List U} {ys : List V} {Q : VK} {W : Addr → U → IH → Mm → Hp → Prop} (s : Sim K m h H) (r : RUs K m H xs ys) (p : Post K m H (newT xs h) (QU K Q) W) :
    ys.length ≤ sizeLine ∧ ∀ p, H p = none → Q (.ref p) (upd H p (.tup ys)) := by
  unfold newT at p
  split at p
  · rename_i hz
    refine ⟨by rw [← r.length]; exact hz, fun q hq => ?_⟩
    exact p m _ (Fr.new hq) (s.new hq) _ ⟨q, ys, rfl, .inl (at_new s hq), r.step (Fr.new hq)⟩
  · exact False.elim p

/-- the items of a list, of a tuple -/
def itL (h : IH) : U → Option (List U)
  | .lst xs => some xs
  | .scr xs => some xs
  | .ref n => match h[n]? with
    | some (.lst xs) => some xs
    | _ => none
  | _ => none
/-- .. of a list that is not locked -/
def itO (h : IH) : U → Option (List U)
  | .lst xs => some xs
  | .ref n => match h[n]? with
    | some (.lst xs) => some xs
    | _ => none
  | _ => none
def itT : U → Option (List U)
  | .tup xs => some xs
  | _ => none
theorem Sim.lst (s : Sim K m h H) {n : Nat} {xs : List U} {a : Addr} (e : h[n]? = some (.lst xs)) (ea : m.o[n]? = some a) : ∃ ys, H a = some (.lst ys) ∧ RUs K m H xs ys := by
  obtain ⟨ho, e1, c⟩ := s.obj n a _ ea e
  obtain ⟨ys, rfl, r⟩ := c
  exact ⟨ys, e1, r⟩
theorem itO_ok (s : Sim K m h H) {u : U} {v : V} {xs : List U} (e : itO h u = some xs) (r : RU K m H u v) : ∃ a ys, v = .ref a ∧ H a = some (.lst ys) ∧ RUs K m H xs ys := by
  unfold itO at e
  split at e
  · cases e
    obtain ⟨a, ys, e1, q, r2⟩ := r
    exact ⟨a, ys, e1, q.h, r2⟩
  · obtain ⟨a, e1, q⟩ := r
    split at e
    · rename_i hh
      cases e
      obtain ⟨ys, e2, r2⟩ := s.lst hh q
      exact ⟨a, ys, e1, e2, r2⟩
    · cases e
  · cases e
theorem itL_ok (s : Sim K m h H) {u : U} {v : V} {xs : List U} (e : itL h u = some xs) (r : RU K m H u v) : ∃ a ys, v = .ref a ∧ SqL K H a ys ∧ RUs K m H xs ys := by
  unfold itL at e
  split at e
  · cases e
    obtain ⟨a, ys, e1, q, r2⟩ := r
    exact ⟨a, ys, e1, SqL.of q.h, r2⟩
  · cases e
    obtain ⟨a, ys, e1, q, r2⟩ := r
    exact ⟨a, ys, e1, q.sq, r2⟩
  · obtain ⟨a, e1, q⟩ := r
    split at e
    · rename_i hh
      cases e
      obtain ⟨ys, e2, r2⟩ := s.lst hh q
      exact ⟨a, ys, e1, SqL.of e2, r2⟩
    · cases e
  · cases e
theorem itT_ok {u : U} {v : V} {xs : List U} (e : itT u = some xs) (r : RU K m H u v) : ∃ a ys, v = .ref a ∧ SqT K H a ys ∧ RUs K m H xs ys := by
  unfold itT at e
  split at e
  · cases e
    obtain ⟨a, ys, e1, q, r2⟩ := r
    exact ⟨a, ys, e1, q.sq, r2⟩
  · cases e

/-! ### two values, one operation -/
def OpS (K : PySem.W.Frag) (o : U → U → IH → R U) (r : R2) : Prop := ∀ (m : Mm) (h : IH) (H : Hp) (x y : U) (vx vy : V) (Q : VK), Sim K m h H → RU K m H x vx → RU K m H y vy → Post K m H (o x y h) (QU K Q) noW → r vx vy H Q
def bin (o : U → U → IH → R U) (f g : EM) : EM := fun ρ h => (f ρ h).bind fun x h1 => (g ρ h1).bind fun y h2 => o x y h2
def noEx (r : R U) : R U := match r with
  | .ok u h => .ok u h
  | _ => .bad
theorem Post.noW {r : R U} {Q : U → IH → Mm → Hp → Prop} {W : Addr → U → IH → Mm → Hp → Prop} (hn : ∀ C u h, r ≠ .exc C u h) (p : Post K m H r Q W) : Post K m H r Q noW := by
  cases r with
  | ok a h1 => exact p
  | exc C u h1 => exact absurd rfl (hn C u h1)
  | bad => exact p
end
section
variable {X : Cx} {W : WX} {a b : Expr} {fa fb : EM} {pos : Pos}
/-- the operation never ends in an error -/
def NoE (o : U → U → IH → R U) : Prop := ∀ x y h C u h', o x y h ≠ .exc C u h'
theorem tOp_of {r : R2} {o : U → U → IH → R U} (hn : NoE o) (hS : OpS X.K o r) : ∀ σ H Q, TEi X.K W (bin o fa fb) σ H Q → tOp r (TEi X.K W fa) (TEi X.K W fb) σ H Q := by
  rintro σ H Q ⟨ρ, m, h, re, sim, p⟩
  refine ⟨ρ, m, h, re, sim, p.bind.mono (fun x h1 m1 H1 f1 s1 p1 v rv => ?_) fun _ _ _ _ _ _ _ z => z⟩
  refine ⟨ρ, m1, h1, re.step f1, s1, p1.bind.mono (fun y h2 m2 H2 f2 s2 p2 w rw => ?_) fun _ _ _ _ _ _ _ z => z⟩
  exact hS m2 h2 H2 x y v w Q s2 (rv.step f2) rw (p2.noW (hn x y h2))
theorem ie_bin {op : Operator} {r : R2} {o : U → U → IH → R U} (hr : OpR X (binaryOp op) r) (hn : NoE o) (hS : OpS X.K o r) (ha : PE X a (TEi X.K W fa)) (hb : PE X b (TEi X.K W fb)) : PE X (.BinOp a op b pos) (TEi X.K W (bin o fa fb)) :=
  PE.imp (pe_op hr ha hb) (tOp_of hn hS)
end

/-! ### + -/
def addU (md : Bool) (x y : U) (h : IH) : R U := match x, y with
  | .int i, .int j => .ok (.int (i + j)) h
  | .str i, .str j => if i.length + j.length ≤ sizeLine then .ok (.str (i ++ j)) h else .bad
  | .tup i, .tup j => if i.length + j.length ≤ sizeLine then .ok (.tup (i ++ j)) h else .bad
  | x, y => match itO h x, itO h y with
    | some i, some j => newL md (i ++ j) h
    | _, _ => .bad
def rAddU (K : PySem.W.Frag) : R2 := fun x y H Q => (rI0 (fun i j => .int (i + j)) x y H Q) ∨ ((∃ i j, x = .str i ∧ y = .str j ∧ i.length + j.length ≤ sizeLine ∧ Q (.str (i ++ j)) H) ∨ (rCatA K x y H Q ∨ rCat x y H Q))
section
variable {X : Cx}
theorem OpR.or' {f : Value → Value → Sem Value} {r r' : R2} (h : OpR X f r) (h' : OpR X f r') : OpR X f (fun x y H Q => r x y H Q ∨ r' x y H Q) := by
  intro pins s σ H x y v u Q I rx ry q
  rcases q with q | q
  · exact h pins s σ H x y v u Q I rx ry q
  · exact h' pins s σ H x y v u Q I rx ry q
theorem op_addU : OpR X (binaryOp .Add) (rAddU X.K) := OpR.or' op_add (OpR.or' op_add_str (OpR.or' op_catA op_cat))
end
theorem newL_noe {md : Bool} {xs : List U} {h : IH} {C : Addr} {u : U} {h' : IH} : newL md xs h ≠ .exc C u h' := by
  unfold newL
  split
  · cases md <;> (intro z; simp at z)
  · intro z; cases z
theorem addU_noe {md : Bool} : NoE (addU md) := by
  intro x y h C u h'
  unfold addU
  split
  · intro z; cases z
  · split <;> (intro z; cases z)
  · split <;> (intro z; cases z)
  · split
    · exact newL_noe
    · intro z; cases z
theorem addU_ok {K : PySem.W.Frag} {md : Bool} : OpS K (addU md) (rAddU K) := by
  intro m h H x y vx vy Q s rx ry p
  unfold addU at p
  split at p
  · cases rx; cases ry
    exact .inl ⟨_, _, rfl, rfl, p.here s _ rfl⟩
  · cases rx; cases ry
    split at p
    · rename_i hz
      exact .inr (.inl ⟨_, _, rfl, rfl, hz, p.here s _ rfl⟩)
    · exact False.elim p
  · split at p
    · rename_i i j hz
      obtain ⟨a, ys, rfl, ta, ra⟩ := rx
      obtain ⟨b, zs, rfl, tb, rb⟩ := ry
      refine .inr (.inr (.inl ⟨a, b, ys, zs, rfl, rfl, ta.sq, tb.sq, by rw [← ra.length, ← rb.length]; exact hz, fun e => ?_, fun _ e => ?_, fun _ _ q hq => ?_⟩))
      · have e' : i = [] := List.eq_nil_of_length_eq_zero (by rw [ra.length, e]; rfl)
        subst e'
        exact p.here s _ ⟨b, zs, rfl, tb, rb⟩
      · have e' : j = [] := List.eq_nil_of_length_eq_zero (by rw [rb.length, e]; rfl)
        subst e'
        rw [List.append_nil] at p
        exact p.here s _ ⟨a, ys, rfl, ta, ra⟩
      · exact p m _ (Fr.new hq) (s.new hq) _ ⟨q, _, rfl, .inl (at_new s hq), (ra.append rb).step (Fr.new hq)⟩
    · exact False.elim p
  · split at p
    · rename_i i j hi hj
      obtain ⟨a, ys, rfl, ha, ra⟩ := itO_ok s hi rx
      obtain ⟨b, zs, rfl, hb, rb⟩ := itO_ok s hj ry
      obtain ⟨hz, q⟩ := newL_ok s (ra.append rb) p
      exact .inr (.inr (.inr ⟨a, b, ys, zs, rfl, rfl, ha, hb, by simpa using hz, q⟩))
    · exact False.elim p
section
variable {X : Cx} {W : WX} {a b : Expr} {fa fb : EM} {pos : Pos}
theorem ie_add (md : Bool) (ha : PE X a (TEi X.K W fa)) (hb : PE X b (TEi X.K W fb)) : PE X (.BinOp a .Add b pos) (TEi X.K W (bin (addU md) fa fb)) := ie_bin op_addU addU_noe addU_ok ha hb
end

/-! ### -, *, //, %, ** of ints; a list * an int -/
def intOp (c : Int → Int → Bool) (g : Int → Int → Int) (x y : U) (h : IH) : R U := match x, y with
  | .int i, .int j => if c i j = true then .ok (.int (g i j)) h else .bad
  | _, _ => .bad
theorem intOp_noe {c : Int → Int → Bool} {g : Int → Int → Int} : NoE (intOp c g) := by
  intro x y h C u h'
  unfold intOp
  split
  · split <;> (intro z; cases z)
  · intro z; cases z
theorem intOp_ok {K : PySem.W.Frag} {c : Int → Int → Bool} {g : Int → Int → Int} {r : R2} (hr : ∀ (i j : Int) (H : Hp) (Q : VK), c i j = true → Q (.int (g i j)) H → r (.int i) (.int j) H Q) : OpS K (intOp c g) r := by
  intro m h H x y vx vy Q s rx ry p
  unfold intOp at p
  split at p
  · cases rx; cases ry
    split at p
    · rename_i hc
      exact hr _ _ _ _ hc (p.here s _ rfl)
    · exact False.elim p
  · exact False.elim p
abbrev subU := intOp (fun _ _ => true) (fun i j => i - j)
def mulC (i j : Int) : Bool := decide (i.natAbs < 2 ^ 64) || decide (j.natAbs < 2 ^ 64) || (decide (i.natAbs < 2 ^ 300) && decide (j.natAbs < 2 ^ 300))
abbrev divU := intOp (fun _ j => decide (0 < j) && decide (j < 1073741824)) (fun i j => i / j)
abbrev modU := intOp (fun _ j => decide (0 < j)) (fun i j => i % j)
abbrev powU := intOp (fun i j => decide (0 ≤ j) && decide (j ≤ 1000000) && decide (i.natAbs < 2 ^ 64)) (fun i j => i ^ j.toNat)
def mulU (md : Bool) (x y : U) (h : IH) : R U := match x, y with
  | .int i, .int j => if mulC i j = true then .ok (.int (i * j)) h else .bad
  | x, .int j => match itO h x with
    | some i => if decide (-(2 ^ 63) ≤ j) && decide (j < 2 ^ 63) && decide (i.length * j.toNat ≤ sizeLine) then newL md (List.replicate j.toNat i).flatten h else .bad
    | _ => .bad
  | _, _ => .bad
section
variable {X : Cx}
def rMulU : R2 := fun x y H Q => (rI CMul (fun i j => .int (i * j)) x y H Q) ∨ (rI CMulW (fun i j => .int (i * j)) x y H Q ∨ rRep x y H Q)
theorem op_mulU : OpR X (binaryOp .Mult) rMulU := OpR.or' op_mul (OpR.or' op_mulW op_rep)
end
theorem mulU_noe {md : Bool} : NoE (mulU md) := by
  intro x y h C u h'
  unfold mulU
  split
  · split <;> (intro z; cases z)
  · split
    · split
      · exact newL_noe
      · intro z; cases z
    · intro z; cases z
  · intro z; cases z
theorem mulU_ok {K : PySem.W.Frag} {md : Bool} : OpS K (mulU md) rMulU := by
  intro m h H x y vx vy Q s rx ry p
  unfold mulU at p
  split at p
  · cases rx; cases ry
    split at p
    · rename_i i j hc
      have q := p.here s _ rfl
      unfold mulC at hc
      simp only [Bool.or_eq_true, Bool.and_eq_true, decide_eq_true_eq] at hc
      rcases hc with (hc | hc) | hc
      · exact .inl ⟨_, _, rfl, rfl, .inl (by omega), q⟩
      · exact .inl ⟨_, _, rfl, rfl, .inr (by omega), q⟩
      · exact .inr (.inl ⟨_, _, rfl, rfl, wide_mul hc.1 hc.2 (by decide) (by decide) (by decide), q⟩)
    · exact False.elim p
  · cases ry
    split at p
    · rename_i i hi
      split at p
      · rename_i hc
        simp only [Bool.and_eq_true, decide_eq_true_eq] at hc
        obtain ⟨a, ys, rfl, ha, ra⟩ := itO_ok s hi rx
        obtain ⟨hz, q⟩ := newL_ok s ra.flat p
        exact .inr (.inr ⟨a, _, ys, rfl, rfl, ha, hc.1.1, hc.1.2, by rw [← ra.length]; exact hc.2, q⟩)
      · exact False.elim p
    · exact False.elim p
  · exact False.elim p
section
variable {X : Cx} {W : WX} {a b : Expr} {fa fb : EM} {pos : Pos}
theorem ie_sub (ha : PE X a (TEi X.K W fa)) (hb : PE X b (TEi X.K W fb)) : PE X (.BinOp a .Sub b pos) (TEi X.K W (bin subU fa fb)) :=
  ie_bin op_sub intOp_noe (intOp_ok fun _ _ _ _ _ q => ⟨_, _, rfl, rfl, q⟩) ha hb
theorem ie_mul (md : Bool) (ha : PE X a (TEi X.K W fa)) (hb : PE X b (TEi X.K W fb)) : PE X (.BinOp a .Mult b pos) (TEi X.K W (bin (mulU md) fa fb)) := ie_bin op_mulU mulU_noe mulU_ok ha hb
theorem ie_div (ha : PE X a (TEi X.K W fa)) (hb : PE X b (TEi X.K W fb)) : PE X (.BinOp a .FloorDiv b pos) (TEi X.K W (bin divU fa fb)) :=
  ie_bin op_fdiv intOp_noe (intOp_ok fun _ _ _ _ hc q => by
    simp only [Bool.and_eq_true, decide_eq_true_eq] at hc
    exact ⟨_, _, rfl, rfl, hc, q⟩) ha hb
theorem ie_mod (ha : PE X a (TEi X.K W fa)) (hb : PE X b (TEi X.K W fb)) : PE X (.BinOp a .Mod b pos) (TEi X.K W (bin modU fa fb)) :=
  ie_bin op_mod intOp_noe (intOp_ok fun _ _ _ _ hc q => ⟨_, _, rfl, rfl, by simpa using hc, q⟩) ha hb
theorem ie_pow (ha : PE X a (TEi X.K W fa)) (hb : PE X b (TEi X.K W fb)) : PE X (.BinOp a .Pow b pos) (TEi X.K W (bin powU fa fb)) :=
  ie_bin op_pow intOp_noe (intOp_ok fun _ _ _ _ hc q => by
    simp only [Bool.and_eq_true, decide_eq_true_eq] at hc
    exact ⟨_, _, rfl, rfl, ⟨hc.1.1, hc.1.2, hc.2⟩, q⟩) ha hb
end
end PD

set_option Elab.async false
set_option linter.all false
set_option maxRecDepth 100000
set_option maxHeartbeats 4000000
namespace PD
open PySem PySem.Spec PyProof.Rows L2

/-! ### plain data -/
mutual
def pD : U → Option PyData
  | .non => some .none
  | .bl b => some (.bool b)
  | .int i => some (.int i)
  | .str x => some (.str x)
  | .tup xs => (pDs xs).map .tuple
  | .lst xs => (pDs xs).map .list
  | .scr xs => (pDs xs).map .list
  | .ref _ => none
  | .adr _ => none
  | .exc _ _ => none
  | .dic _ _ => none
def pDs : List U → Option (List PyData)
  | [] => some []
  | x :: xs => match pD x, pDs xs with
    | some d, some ds => some (d :: ds)
    | _, _ => none
end
def tD (h : IH) (u : U) : Option PyData := match u with
  | .ref n => match h[n]? with
    | some (.lst xs) => (pDs xs).map .list
    | _ => none
  | u => pD u
section
variable {K : PySem.W.Frag} {m m' : Mm} {H H' : Hp} {h h' : IH}
mutual
theorem pD_ok : ∀ {u : U} {v : V} {d : PyData}, pD u = some d → RU K m H u v → Dp K H v d
  | .non, v, d, e, r => by
    have r : v = .non := r
    cases e; rw [r]; exact .non
  | .bl b, v, d, e, r => by
    have r : v = .bl b := r
    cases e; rw [r]; exact .bl b
  | .int i, v, d, e, r => by
    have r : v = .int i := r
    cases e; rw [r]; exact .int i
  | .str x, v, d, e, r => by
    have r : v = .str x := r
    cases e; rw [r]; exact .str x
  | .tup xs, v, d, e, r => by
    obtain ⟨a, ys, rfl, t, q⟩ := r
    unfold pD at e
    cases z : pDs xs with
    | none => rw [z] at e; cases e
    | some ds => rw [z] at e; cases e; exact .tup t.sq (pDs_ok z q)
  | .lst xs, v, d, e, r => by
    obtain ⟨a, ys, rfl, t, q⟩ := r
    unfold pD at e
    cases z : pDs xs with
    | none => rw [z] at e; cases e
    | some ds => rw [z] at e; cases e; exact .lst (SqL.of t.h) (pDs_ok z q)
  | .scr xs, v, d, e, r => by
    obtain ⟨a, ys, rfl, t, q⟩ := r
    unfold pD at e
    cases z : pDs xs with
    | none => rw [z] at e; cases e
    | some ds => rw [z] at e; cases e; exact .lst t.sq (pDs_ok z q)
  | .ref _, _, _, e, _ => by cases e
  | .adr _, _, _, e, _ => by cases e
  | .exc _ _, _, _, e, _ => by cases e
  | .dic _ _, _, _, e, _ => by cases e
theorem pDs_ok : ∀ {us : List U} {vs : List V} {ds : List PyData}, pDs us = some ds → RUs K m H us vs → DpAll K H vs ds
  | [], vs, ds, e, r => by
    have r : vs = [] := r
    cases e; rw [r]; exact .nil
  | x :: xs, vs, ds, e, r => by
    obtain ⟨y, t, rfl, h1, h2⟩ := r
    unfold pDs at e
    cases z1 : pD x with
    | none => rw [z1] at e; cases e
    | some d => cases z2 : pDs xs with
      | none => rw [z1, z2] at e; cases e
      | some ds' => rw [z1, z2] at e; cases e; exact .cons (pD_ok z1 h1) (pDs_ok z2 h2)
end
theorem tD_ok (s : Sim K m h H) {u : U} {v : V} {d : PyData} (e : tD h u = some d) (r : RU K m H u v) : Dp K H v d := by
  unfold tD at e
  split at e
  · obtain ⟨a, rfl, q⟩ := r
    split at e
    · rename_i xs hh
      obtain ⟨ys, e2, r2⟩ := s.lst hh q
      cases z : pDs xs with
      | none => rw [z] at e; cases e
      | some ds => rw [z] at e; cases e; exact .lst (SqL.of e2) (pDs_ok z r2)
    · cases e
  · exact pD_ok e r
end

/-! ### comparisons -/
def eqU (neg : Bool) (x y : U) (h : IH) : R U := match tD h x, tD h y with
  | some d, some e => if SeqAt.shaped d = true ∧ SeqAt.shaped e = true then .ok (.bl (if neg then !PyData.eqv d e else PyData.eqv d e)) h else .bad
  | _, _ => .bad
theorem eqU_noe {neg : Bool} : NoE (eqU neg) := by
  intro x y h C u h'
  unfold eqU
  split
  · split <;> (intro z; cases z)
  · intro z; cases z
theorem eqU_ok {K : PySem.W.Frag} : OpS K (eqU false) (rEqD K) := by
  intro m h H x y vx vy Q s rx ry p
  unfold eqU at p
  split at p
  · rename_i d e hd he
    split at p
    · rename_i hc
      exact ⟨d, e, tD_ok s hd rx, tD_ok s he ry, hc.1, hc.2, p.here s _ rfl⟩
    · exact False.elim p
  · exact False.elim p
theorem neU_ok {K : PySem.W.Frag} : OpS K (eqU true) (rNeD K) := by
  intro m h H x y vx vy Q s rx ry p
  unfold eqU at p
  split at p
  · rename_i d e hd he
    split at p
    · rename_i hc
      exact ⟨d, e, tD_ok s hd rx, tD_ok s he ry, hc.1, hc.2, p.here s _ rfl⟩
    · exact False.elim p
  · exact False.elim p
/-- x in y: texts; data in a list, a tuple -/
def hasU (neg : Bool) (x y : U) (h : IH) : R U := match x, y with
  | .str a, .str b => .ok (.bl (if neg then !(!(Builtin.Str.occurrences b a 0 b.length 1).isEmpty) else !(Builtin.Str.occurrences b a 0 b.length 1).isEmpty)) h
  | x, y => match tD h x, tD h y with
    | some d, some (.list ds) => if SeqAt.shaped d = true ∧ SeqAt.shaped (.list ds) = true then .ok (.bl (if neg then !ds.any fun z => PyData.eqv z d else ds.any fun z => PyData.eqv z d)) h else .bad
    | some d, some (.tuple ds) => if SeqAt.shaped d = true ∧ SeqAt.shaped (.tuple ds) = true then .ok (.bl (if neg then !ds.any fun z => PyData.eqv z d else ds.any fun z => PyData.eqv z d)) h else .bad
    | _, _ => .bad
theorem hasU_noe {neg : Bool} : NoE (hasU neg) := by
  intro x y h C u h'
  unfold hasU
  split
  · intro z; cases z
  · split
    · split <;> (intro z; cases z)
    · split <;> (intro z; cases z)
    · intro z; cases z
def rInT (K : PySem.W.Frag) (neg : Bool) : R2 := fun x y H Q => ∃ d ds, Dp K H x d ∧ Dp K H y (.tuple ds) ∧ SeqAt.shaped d = true ∧ SeqAt.shaped (.tuple ds) = true ∧ Q (.bl (if neg then !ds.any fun z => PyData.eqv z d else ds.any fun z => PyData.eqv z d)) H
section
variable {X : Cx}
theorem op_inT (hu : X.A.units + 65 < cLine) : OpR X (compareOp .In) (rInT X.K false) := by
  rintro pins s σ H x y v u Q I rx ry ⟨d, ds, hd, he, sd, se, q⟩
  obtain ⟨as, r1⟩ := Dp.reads I d x v hd rx
  obtain ⟨bs, r2⟩ := Dp.reads I (.tuple ds) y u he ry
  exact SeqAt.in_tuple_reads r2 r1 (SeqAt.canLay_of_shaped se) (SeqAt.canLay_of_shaped sd) (room_in_shaped sd hu) ⟨.bl _, H, I, rfl, q⟩
theorem op_notInT (hu : X.A.units + 65 < cLine) : OpR X (compareOp .NotIn) (rInT X.K true) := by
  rintro pins s σ H x y v u Q I rx ry ⟨d, ds, hd, he, sd, se, q⟩
  obtain ⟨as, r1⟩ := Dp.reads I d x v hd rx
  obtain ⟨bs, r2⟩ := Dp.reads I (.tuple ds) y u he ry
  exact SeqAt.notIn_tuple_reads r2 r1 (SeqAt.canLay_of_shaped se) (SeqAt.canLay_of_shaped sd) (room_in_shaped sd hu) ⟨.bl _, H, I, rfl, q⟩
def rStrIn (neg : Bool) : R2 := fun x y H Q => ∃ i j, x = .str i ∧ y = .str j ∧ Q (.bl (if neg then !(!(Builtin.Str.occurrences j i 0 j.length 1).isEmpty) else !(Builtin.Str.occurrences j i 0 j.length 1).isEmpty)) H
def rHas (K : PySem.W.Frag) (neg : Bool) : R2 := fun x y H Q => rStrIn neg x y H Q ∨ ((if neg then rNotInD K x y H Q else rInD K x y H Q) ∨ rInT K neg x y H Q)
theorem op_has (hu : X.A.units + 65 < cLine) : OpR X (compareOp .In) (rHas X.K false) := OpR.or' op_in_str (OpR.or' (op_inD hu) (op_inT hu))
theorem op_hasNot (hu : X.A.units + 65 < cLine) : OpR X (compareOp .NotIn) (rHas X.K true) := OpR.or' op_notin_str (OpR.or' (op_notInD hu) (op_notInT hu))
end
theorem hasU_ok {K : PySem.W.Frag} {neg : Bool} : OpS K (hasU neg) (rHas K neg) := by
  intro m h H x y vx vy Q s rx ry p
  unfold hasU at p
  split at p
  · cases rx; cases ry
    exact .inl ⟨_, _, rfl, rfl, p.here s _ rfl⟩
  · split at p
    · rename_i d ds hd he
      split at p
      · rename_i hc
        have q := p.here s _ rfl
        refine .inr (.inl ?_)
        cases neg with
        | true => exact ⟨d, ds, tD_ok s hd rx, tD_ok s he ry, hc.1, hc.2, q⟩
        | false => exact ⟨d, ds, tD_ok s hd rx, tD_ok s he ry, hc.1, hc.2, q⟩
      · exact False.elim p
    · rename_i d ds hd he
      split at p
      · rename_i hc
        exact .inr (.inr ⟨d, ds, tD_ok s hd rx, tD_ok s he ry, hc.1, hc.2, p.here s _ rfl⟩)
      · exact False.elim p
    · exact False.elim p
/-- <, <=, >, >= of ints -/
def cmpU (g : Int → Int → Bool) (x y : U) (h : IH) : R U := match x, y with
  | .int i, .int j => .ok (.bl (g i j)) h
  | _, _ => .bad
theorem cmpU_noe {g : Int → Int → Bool} : NoE (cmpU g) := by
  intro x y h C u h'
  unfold cmpU
  split <;> (intro z; cases z)
theorem cmpU_ok {K : PySem.W.Frag} {g : Int → Int → Bool} : OpS K (cmpU g) (rI0 fun i j => .bl (g i j)) := by
  intro m h H x y vx vy Q s rx ry p
  unfold cmpU at p
  split at p
  · cases rx; cases ry
    exact ⟨_, _, rfl, rfl, p.here s _ rfl⟩
  · exact False.elim p
abbrev ltU := cmpU fun i j => decide (i < j)
abbrev leU := cmpU fun i j => decide (i ≤ j)
abbrev gtU := cmpU fun i j => decide (j < i)
abbrev geU := cmpU fun i j => decide (j ≤ i)
/-- is None, is not None -/
def isNU (neg : Bool) (x y : U) (h : IH) : R U := match y with
  | .non => .ok (.bl (match x with | .non => !neg | _ => neg)) h
  | _ => .bad
theorem isNU_noe {neg : Bool} : NoE (isNU neg) := by
  intro x y h C u h'
  unfold isNU
  split <;> (intro z; cases z)
theorem RU.non_iff {K : PySem.W.Frag} {m : Mm} {H : Hp} {x : U} {v : V} (r : RU K m H x v) : decide (v = .non) = (match x with | .non => true | _ => false) := by
  cases x with
  | non => have r : v = .non := r; simp [r]
  | bl b => have r : v = .bl b := r; simp [r]
  | int b => have r : v = .int b := r; simp [r]
  | str b => have r : v = .str b := r; simp [r]
  | tup b => obtain ⟨a, ys, rfl, _⟩ := r; simp
  | lst b => obtain ⟨a, ys, rfl, _⟩ := r; simp
  | scr b => obtain ⟨a, ys, rfl, _⟩ := r; simp
  | ref b => obtain ⟨a, rfl, _⟩ := r; simp
  | adr b => have r : v = .ref b := r; simp [r]
  | exc b c => obtain ⟨a, d, y, rfl, _⟩ := r; simp
  | dic b c => obtain ⟨a, ys, rfl, _⟩ := r; simp
theorem isNU_ok {K : PySem.W.Frag} : OpS K (isNU false) (fun x y H Q => y = .non ∧ Q (.bl (decide (x = .non))) H) := by
  intro m h H x y vx vy Q s rx ry p
  unfold isNU at p
  split at p
  · have ry : vy = .non := ry
    refine ⟨ry, p.here s _ ?_⟩
    rw [rx.non_iff]
    cases x <;> rfl
  · exact False.elim p
theorem isNotU_ok {K : PySem.W.Frag} : OpS K (isNU true) (fun x y H Q => y = .non ∧ Q (.bl (!decide (x = .non))) H) := by
  intro m h H x y vx vy Q s rx ry p
  unfold isNU at p
  split at p
  · have ry : vy = .non := ry
    refine ⟨ry, p.here s _ ?_⟩
    rw [rx.non_iff]
    cases x <;> rfl
  · exact False.elim p

section
variable {X : Cx} {W : WX} {a b c : Expr} {fa fb fc : EM} {pos : Pos}
theorem ie_cmp {op : CmpOp} {r : R2} {o : U → U → IH → R U} (hr : OpR X (compareOp op) r) (hn : NoE o) (hS : OpS X.K o r) (ha : PE X a (TEi X.K W fa)) (hb : PE X b (TEi X.K W fb)) (hm : behindInMarks op b = false) :
    PE X (.Compare a [op] [b] pos) (TEi X.K W (bin o fa fb)) := PE.imp (pe_cmpR hr ha hb hm) (tOp_of hn hS)
/-- a value that is a bool, as a test -/
def asB (f : EM) : BM := fun ρ h => (f ρ h).bind fun x h1 => match x with
  | .bl b => .ok b h1
  | _ => .bad
theorem tTest_of {t : TE} {f : EM} (ht : ∀ σ H Q, TEi X.K W f σ H Q → t σ H Q) : ∀ σ H Q, TTi X.K W (asB f) σ H Q → tTest t σ H Q := by
  rintro σ H Q ⟨ρ, m, h, re, sim, p⟩
  refine ht σ H _ ⟨ρ, m, h, re, sim, p.bind.mono (fun x h1 m1 H1 f1 s1 p1 v rv => ?_) fun _ _ _ _ _ _ _ z => z⟩
  cases x with
  | bl k => exact ⟨k, rv, p1.here s1⟩
  | _ => exact False.elim p1
theorem it_cmp {op : CmpOp} {r : R2} {o : U → U → IH → R U} (hr : OpR X (compareOp op) r) (hn : NoE o) (hS : OpS X.K o r) (ha : PE X a (TEi X.K W fa)) (hb : PE X b (TEi X.K W fb)) (hm : behindInMarks op b = false) :
    PT X (.Compare a [op] [b] pos) (TTi X.K W (asB (bin o fa fb))) := PT.imp (pt_cmpR hr ha hb hm) (tTest_of (tOp_of hn hS))
/-- a op b op' c -/
def chn (o o' : U → U → IH → R U) (f g k : EM) : EM := fun ρ h => (f ρ h).bind fun x h1 => (g ρ h1).bind fun y h2 => (o x y h2).bind fun z h3 => match z with
  | .bl true => (k ρ h3).bind fun w h4 => o' y w h4
  | .bl false => .ok (.bl false) h3
  | _ => .bad
theorem tChain_of {r r' : R2} {o o' : U → U → IH → R U} (hn : NoE o) (hn' : NoE o') (hS : OpS X.K o r) (hS' : OpS X.K o' r') : ∀ σ H Q, TEi X.K W (chn o o' fa fb fc) σ H Q → tChain r r' (TEi X.K W fa) (TEi X.K W fb) (TEi X.K W fc) σ H Q := by
  rintro σ H Q ⟨ρ, m, h, re, sim, p⟩
  refine ⟨ρ, m, h, re, sim, p.bind.mono (fun x h1 m1 H1 f1 s1 p1 v rv => ?_) fun _ _ _ _ _ _ _ z => z⟩
  refine ⟨ρ, m1, h1, re.step f1, s1, p1.bind.mono (fun y h2 m2 H2 f2 s2 p2 w rw => ?_) fun _ _ _ _ _ _ _ z => z⟩
  have p3 := p2.bind
  refine hS m2 h2 H2 x y v w _ s2 (rv.step f2) rw ((p3.noW (hn x y h2)).mono (fun z h3 m3 H3 f3 s3 p4 zv rz => ?_) fun _ _ _ _ _ _ _ z => z)
  cases z with
  | bl k =>
    have rz : zv = .bl k := rz
    refine ⟨k, rz, ?_⟩
    cases k with
    | true =>
      rw [if_pos rfl]
      refine ⟨ρ, m3, h3, re.step (f1.trans (f2.trans f3)), s3, (Post.bind p4).mono (fun w' h4 m4 H4 f4 s4 p5 wv rw' => ?_) fun _ _ _ _ _ _ _ z => z⟩
      exact hS' m4 h4 H4 y w' w wv Q s4 (rw.step (f3.trans f4)) rw' (p5.noW (hn' y w' h4))
    | false =>
      rw [if_neg Bool.false_ne_true]
      exact p4.here s3 _ rfl
  | _ => exact False.elim p4
theorem ie_chain {op op' : CmpOp} {r r' : R2} {o o' : U → U → IH → R U} (hr : OpR X (compareOp op) r) (hr' : OpR X (compareOp op') r') (hn : NoE o) (hn' : NoE o') (hS : OpS X.K o r) (hS' : OpS X.K o' r')
    (ha : PE X a (TEi X.K W fa)) (hb : PE X b (TEi X.K W fb)) (hc : PE X c (TEi X.K W fc)) (hm : lastMarks [op, op'] [b, c] = false := by with_unfolding_all rfl) :
    PE X (.Compare a [op, op'] [b, c] pos) (TEi X.K W (chn o o' fa fb fc)) := PE.imp (pe_chain hr hr' ha hb hc hm) (tChain_of hn hn' hS hS')
theorem it_chain {op op' : CmpOp} {r r' : R2} {o o' : U → U → IH → R U} (hr : OpR X (compareOp op) r) (hr' : OpR X (compareOp op') r') (hn : NoE o) (hn' : NoE o') (hS : OpS X.K o r) (hS' : OpS X.K o' r')
    (ha : PE X a (TEi X.K W fa)) (hb : PE X b (TEi X.K W fb)) (hc : PE X c (TEi X.K W fc)) (hm : lastMarks [op, op'] [b, c] = false := by with_unfolding_all rfl) :
    PT X (.Compare a [op, op'] [b, c] pos) (TTi X.K W (asB (chn o o' fa fb fc))) := PT.imp (pt_chain hr hr' ha hb hc hm) (tTest_of (tChain_of hn hn' hS hS'))

/-! ### truth, and, or, not, if -/
def truU (h : IH) : U → Option Bool
  | .non => some false
  | .bl b => some b
  | .int i => some (i != 0)
  | .str y => if y.length ≤ sizeLine then some ((y.length : Int) != 0) else none
  | .tup xs => some (!xs.isEmpty)
  | .lst xs => some (!xs.isEmpty)
  | .scr xs => some (!xs.isEmpty)
  | .ref n => match h[n]? with
    | some (.lst xs) => some (!xs.isEmpty)
    | some (.dk kvs) => some (!kvs.isEmpty)
    | _ => none
  | _ => none
theorem RUs.isEmpty {K : PySem.W.Frag} {m : Mm} {H : Hp} {xs : List U} {ys : List V} (r : RUs K m H xs ys) : xs.isEmpty = ys.isEmpty := by
  have e := r.length
  cases xs <;> cases ys <;> simp_all
theorem truU_ok {K : PySem.W.Frag} {m : Mm} {h : IH} {H : Hp} (s : Sim K m h H) {x : U} {v : V} {k : Bool} (e : truU h x = some k) (r : RU K m H x v) : TruV K v H k := by
  cases x with
  | non => have r : v = .non := r; cases e; subst r; exact rfl
  | bl b => have r : v = .bl b := r; cases e; subst r; exact rfl
  | int i => have r : v = .int i := r; cases e; subst r; exact rfl
  | str y =>
    have r : v = .str y := r
    subst r
    have e : (if y.length ≤ sizeLine then some ((y.length : Int) != 0) else none) = some k := e
    split at e
    · rename_i hz; cases e; exact ⟨hz, rfl⟩
    · cases e
  | tup xs => obtain ⟨a, ys, rfl, t, q⟩ := r; cases e; exact .inr (.inl ⟨ys, t.sq, by rw [q.isEmpty]⟩)
  | lst xs => obtain ⟨a, ys, rfl, t, q⟩ := r; cases e; exact .inl ⟨ys, SqL.of t.h, by rw [q.isEmpty]⟩
  | scr xs => obtain ⟨a, ys, rfl, t, q⟩ := r; cases e; exact .inl ⟨ys, t.sq, by rw [q.isEmpty]⟩
  | ref n =>
    obtain ⟨a, rfl, q⟩ := r
    have e : (match h[n]? with
      | some (.lst xs) => some (!xs.isEmpty)
      | some (.dk kvs) => some (!kvs.isEmpty)
      | _ => none) = some k := e
    split at e
    · rename_i xs hh
      cases e
      obtain ⟨ys, e2, r2⟩ := s.lst hh q
      exact .inl ⟨ys, SqL.of e2, by rw [r2.isEmpty]⟩
    · rename_i kvs hh
      cases e
      obtain ⟨ho, e1, kws, rfl, e2, r2⟩ := s.obj n a _ q hh
      refine .inr (.inr ⟨kws, e1, ?_⟩)
      have := congrArg List.length e2
      cases kvs <;> cases kws <;> simp_all
    · cases e
  | adr a => cases e
  | exc C u => cases e
  | dic b c => cases e
def tst (f : EM) : BM := fun ρ h => (f ρ h).bind fun x h1 => match truU h1 x with
  | some b => .ok b h1
  | none => .bad
/-- a test that is a value's truth: a name, a call, a subscript, a field .. -/
theorem it_tru (ha : PE X a (TEi X.K W fa)) (he : ∀ whole, isTrue a X.env whole = (do let v ← whole; standAt a.pos; holding [v] (truthy v)) := by intro _; rfl) : PT X a (TTi X.K W (tst fa)) := by
  refine PT.imp (pt_truth ha he) ?_
  rintro σ H Q ⟨ρ, m, h, re, sim, p⟩
  refine ⟨ρ, m, h, re, sim, p.bind.mono (fun x h1 m1 H1 f1 s1 p1 v rv => ?_) fun _ _ _ _ _ _ _ z => z⟩
  cases q : truU h1 x with
  | none => simp only [q] at p1; exact False.elim p1
  | some k => simp only [q] at p1; exact ⟨k, truU_ok s1 q rv, p1.here s1⟩
variable {ba bb : BM} {rest : List Expr}
def andB (f g : BM) : BM := fun ρ h => (f ρ h).bind fun b h1 => if b = true then g ρ h1 else .ok false h1
def orB (f g : BM) : BM := fun ρ h => (f ρ h).bind fun b h1 => if b = true then .ok true h1 else g ρ h1
def notB (f : BM) : BM := fun ρ h => (f ρ h).bind fun b h1 => .ok (!b) h1
theorem iw_and1 (ha : PT X a (TTi X.K W ba)) : PW X (.BoolOp .And [a] pos) (TTi X.K W ba) := pw_and1 ha
theorem iw_or1 (ha : PT X a (TTi X.K W ba)) : PW X (.BoolOp .Or [a] pos) (TTi X.K W ba) := pw_or1 ha
theorem iw_and (ha : PT X a (TTi X.K W ba)) (hb : PW X (.BoolOp .And (b :: rest) pos) (TTi X.K W bb)) : PW X (.BoolOp .And (a :: b :: rest) pos) (TTi X.K W (andB ba bb)) := by
  refine PW.imp (pw_and ha hb) ?_
  rintro σ H Q ⟨ρ, m, h, re, sim, p⟩
  refine ⟨ρ, m, h, re, sim, p.bind.mono (fun k h1 m1 H1 f1 s1 p1 => ?_) fun _ _ _ _ _ _ _ z => z⟩
  cases k with
  | true => exact ⟨ρ, m1, h1, re.step f1, s1, p1⟩
  | false => exact p1.here s1
theorem iw_or (ha : PT X a (TTi X.K W ba)) (hb : PW X (.BoolOp .Or (b :: rest) pos) (TTi X.K W bb)) : PW X (.BoolOp .Or (a :: b :: rest) pos) (TTi X.K W (orB ba bb)) := by
  refine PW.imp (pw_or ha hb) ?_
  rintro σ H Q ⟨ρ, m, h, re, sim, p⟩
  refine ⟨ρ, m, h, re, sim, p.bind.mono (fun k h1 m1 H1 f1 s1 p1 => ?_) fun _ _ _ _ _ _ _ z => z⟩
  cases k with
  | false => exact ⟨ρ, m1, h1, re.step f1, s1, p1⟩
  | true => exact p1.here s1
theorem it_not (ha : PT X a (TTi X.K W ba)) : PT X (.UnaryOp .Not a pos) (TTi X.K W (notB ba)) := by
  refine PT.imp (pt_not ha) ?_
  rintro σ H Q ⟨ρ, m, h, re, sim, p⟩
  exact ⟨ρ, m, h, re, sim, p.bind.mono (fun k h1 m1 H1 f1 s1 p1 => p1.here s1) fun _ _ _ _ _ _ _ z => z⟩
/-- as values -/
def andE (f g : EM) : EM := fun ρ h => (f ρ h).bind fun x h1 => match x with
  | .bl true => g ρ h1
  | .bl false => .ok (.bl false) h1
  | _ => .bad
def orE (f g : EM) : EM := fun ρ h => (f ρ h).bind fun x h1 => match x with
  | .bl true => .ok (.bl true) h1
  | .bl false => g ρ h1
  | _ => .bad
def notE (f : EM) : EM := fun ρ h => (f ρ h).bind fun x h1 => match x with
  | .bl b => .ok (.bl (!b)) h1
  | _ => .bad
theorem ie_one {op} (ha : PE X a (TEi X.K W fa)) : PE X (.BoolOp op [a] pos) (TEi X.K W fa) := pe_one ha
theorem ie_and (ha : PE X a (TEi X.K W fa)) (hb : PE X (.BoolOp .And (b :: rest) pos) (TEi X.K W fb)) : PE X (.BoolOp .And (a :: b :: rest) pos) (TEi X.K W (andE fa fb)) := by
  refine PE.imp (pe_and ha hb) ?_
  rintro σ H Q ⟨ρ, m, h, re, sim, p⟩
  refine ⟨ρ, m, h, re, sim, p.bind.mono (fun x h1 m1 H1 f1 s1 p1 v rv => ?_) fun _ _ _ _ _ _ _ z => z⟩
  cases x with
  | bl k =>
    refine ⟨k, rv, ?_⟩
    cases k with
    | true => exact ⟨ρ, m1, h1, re.step f1, s1, p1⟩
    | false => exact p1.here s1 _ rfl
  | _ => exact False.elim p1
theorem ie_or (ha : PE X a (TEi X.K W fa)) (hb : PE X (.BoolOp .Or (b :: rest) pos) (TEi X.K W fb)) : PE X (.BoolOp .Or (a :: b :: rest) pos) (TEi X.K W (orE fa fb)) := by
  refine PE.imp (pe_or ha hb) ?_
  rintro σ H Q ⟨ρ, m, h, re, sim, p⟩
  refine ⟨ρ, m, h, re, sim, p.bind.mono (fun x h1 m1 H1 f1 s1 p1 v rv => ?_) fun _ _ _ _ _ _ _ z => z⟩
  cases x with
  | bl k =>
    refine ⟨k, rv, ?_⟩
    cases k with
    | false => exact ⟨ρ, m1, h1, re.step f1, s1, p1⟩
    | true => exact p1.here s1 _ rfl
  | _ => exact False.elim p1
theorem ie_not (ha : PE X a (TEi X.K W fa)) : PE X (.UnaryOp .Not a pos) (TEi X.K W (notE fa)) := by
  refine PE.imp (pe_not ha) ?_
  rintro σ H Q ⟨ρ, m, h, re, sim, p⟩
  refine ⟨ρ, m, h, re, sim, p.bind.mono (fun x h1 m1 H1 f1 s1 p1 v rv => ?_) fun _ _ _ _ _ _ _ z => z⟩
  cases x with
  | bl k => exact ⟨k, rv, p1.here s1 _ rfl⟩
  | _ => exact False.elim p1
def ifE (t : BM) (f g : EM) : EM := fun ρ h => (t ρ h).bind fun b h1 => if b = true then f ρ h1 else g ρ h1
theorem ie_if (hc : PT X c (TTi X.K W ba)) (ha : PE X a (TEi X.K W fa)) (hb : PE X b (TEi X.K W fb)) : PE X (.IfExp c a b pos) (TEi X.K W (ifE ba fa fb)) := by
  refine PE.imp (pe_ifExp hc ha hb) ?_
  rintro σ H Q ⟨ρ, m, h, re, sim, p⟩
  refine ⟨ρ, m, h, re, sim, p.bind.mono (fun k h1 m1 H1 f1 s1 p1 => ?_) fun _ _ _ _ _ _ _ z => z⟩
  cases k with
  | true => exact ⟨ρ, m1, h1, re.step f1, s1, p1⟩
  | false => exact ⟨ρ, m1, h1, re.step f1, s1, p1⟩
def negE (f : EM) : EM := fun ρ h => (f ρ h).bind fun x h1 => match x with
  | .int i => .ok (.int (-i)) h1
  | _ => .bad
theorem ie_neg (ha : PE X a (TEi X.K W fa)) : PE X (.UnaryOp .USub a pos) (TEi X.K W (negE fa)) := by
  refine PE.imp (pe_un un_neg ha) ?_
  rintro σ H Q ⟨ρ, m, h, re, sim, p⟩
  refine ⟨ρ, m, h, re, sim, p.bind.mono (fun x h1 m1 H1 f1 s1 p1 v rv => ?_) fun _ _ _ _ _ _ _ z => z⟩
  cases x with
  | int i => exact ⟨i, rv, p1.here s1 _ rfl⟩
  | _ => exact False.elim p1
end
end PD

set_option Elab.async false
set_option linter.all false
set_option maxRecDepth 100000
set_option maxHeartbeats 4000000
/-! t[::-1] of a tuple, over the raw heap -/
namespace PD
open PySem PySem.Spec PyProof.Rows L2
section
variable {prog : Program} {w : World} {A : Around} {E : Value → Shared → Prop} {s : Shared}
theorem applied_back {sl : Addr} {u : Tok} {n : Nat} {Q : Int × Int × Nat → Shared → Prop} (hs : s.heap.IsSliceOf sl .none .none (.int (-1) u))
    (h : Q ((n : Int) - 1, -1, n) s) : wpAny (model prog w) A (Builtin.Slice.sliceApplied (.ref sl) (pure (n : Int))) Q E s := by
  obtain ⟨os, hos, hcs, hds⟩ := id hs
  unfold Builtin.Slice.sliceApplied Builtin.Slice.sliceFields
  refine wpAny_bind (wpAny_bind (wpAny_field hos hds (x := .none) rfl (wpAny_bind (wpAny_field hos hds (x := .none) rfl (wpAny_bind (wpAny_field hos hds (x := .int (-1) u) rfl (wpAny_pure ?_)))))))
  refine wpAny_bind (slicePart_int ?_)
  show wpAny _ _ (if ((-1 : Int) == 0) = true then _ else _) _ _ s
  rw [if_neg (by decide)]
  refine wpAny_bind (slicePart_none (wpAny_bind (slicePart_none (wpAny_bind (wpAny_pure ?_)))))
  show wpAny _ _ (match Builtin.Slice.sliceAdjust none none (-1) (n : Int) with | (lo, hi) => pure (lo, (-1 : Int), Builtin.Slice.slicePlaces lo hi (-1))) _ _ s
  have e1 : Builtin.Slice.sliceAdjust none none (-1) (n : Int) = ((n : Int) - 1, -1) := by
    unfold Builtin.Slice.sliceAdjust
    simp <;> omega
  have e2 : Builtin.Slice.slicePlaces ((n : Int) - 1) (-1) (-1) = n := by
    unfold Builtin.Slice.slicePlaces
    simp
    try omega
  rw [e1]
  show wpAny _ _ (pure ((n : Int) - 1, (-1 : Int), Builtin.Slice.slicePlaces ((n : Int) - 1) (-1) (-1))) _ _ s
  rw [e2]
  exact wpAny_pure h
theorem fm_congr {α β : Type} {f g : α → Option β} : ∀ {l : List α}, (∀ x ∈ l, f x = g x) → l.filterMap f = l.filterMap g
  | [], _ => rfl
  | x :: l, h => by
    rw [List.filterMap_cons, List.filterMap_cons, h x (by simp), fm_congr fun y hy => h y (by simp [hy])]
theorem back_pick (xs : List Value) : ((List.range xs.length).filterMap fun (m : Nat) => xs.toArray[(((xs.length : Int) - 1) + (m : Int) * (-1)).toNat]?) = xs.reverse := by
  have e : ∀ m ∈ List.range xs.length, xs.toArray[(((xs.length : Int) - 1) + (m : Int) * (-1)).toNat]? = xs.reverse[m]? := by
    intro m hm
    have hm := List.mem_range.mp hm
    have : (((xs.length : Int) - 1) + (m : Int) * (-1)).toNat = xs.length - 1 - m := by omega
    rw [this, List.getElem?_reverse hm, List.getElem?_toArray]
  rw [fm_congr e]
  have : xs.length = xs.reverse.length := by simp
  rw [this]
  exact filterMap_range_self xs.reverse
where filterMap_range_self : ∀ ys : List Value, ((List.range ys.length).filterMap fun m => ys[m]?) = ys
  | [] => rfl
  | y :: ys => by
    rw [List.length_cons, List.range_succ_eq_map, List.filterMap_cons]
    simp only [List.getElem?_cons_zero]
    rw [List.filterMap_map]
    have : ((fun m => (y :: ys)[m]?) ∘ Nat.succ) = fun m => ys[m]? := by funext m; simp
    rw [this, filterMap_range_self ys]
theorem tup_back {t sl : Addr} {its : List Value} {u : Tok} {Q : Value → Shared → Prop} (ht : IsTup s.heap t its.toArray) (hs : s.heap.IsSliceOf sl .none .none (.int (-1) u)) (hsz : its.length ≤ sizeLine)
    (h : Q (.ref s.heap.objs.size) { s with heap := s.heap.push { cls := .type "tuple", data := .seq its.reverse.toArray } }) : wpAny (model prog w) A (getItem (.ref t) (.ref sl)) Q E s := by
  have htake : sizeOk (.seq its.reverse.toArray) := by
    show its.reverse.toArray.size ≤ sizeLine
    rw [List.size_toArray, List.length_reverse]
    exact hsz
  obtain ⟨os, hos, hcs, hds⟩ := id hs
  have hTs : s.TypeIs (.ref sl) "slice" := ⟨os, hos, hcs⟩
  unfold getItem
  try with_reducible refine wpAny_holding ?_
  first | refine wpAny_bind (wpAny_pure ?_) | skip
  refine wpAny_bind (wpAny_sequenceKey ht.typeIs (by decide) ?_)
  refine wpAny_bind (wpAny_callSpecial?_slot (name := Str.ofString "__getitem__") ht.typeIs PyProof.Rows.slot_tuple_getitem (wpAny_call_entry PyProof.Rows.slot_tuple_getitem ht.typeIs entry_tuple_getitem ?_ (args_tuple_getitem _ _)))
  show wpAny _ _ (Builtin.Tuple.tupleItemsOf (.ref t) >>= _) _ _ s
  refine wpAny_bind (tupleItemsOf_ ht ?_)
  refine wpAny_bind (wpAny_typeOf hTs ?_)
  rw [if_pos (by decide)]
  rw [show ((its.toArray.size : Nat) : Int) = ((its.length : Nat) : Int) by simp]
  refine wpAny_bind (applied_back hs ?_)
  have hno : ¬ ((((its.length : Int) - 1) == 0 && (-1 : Int) == 1 && its.length == its.toArray.size) = true) := by
    intro q
    rw [Bool.and_eq_true, Bool.and_eq_true] at q
    exact absurd (eq_of_beq q.1.2) (by decide)
  show wpAny _ _ (if ((((its.length : Int) - 1) == 0 && (-1 : Int) == 1 && its.length == its.toArray.size) = true) then _ else _) _ _ s
  rw [if_neg hno]
  rw [back_pick]
  first
    | exact wpAny_bind (m := Builtin.Tuple.tupleExact _) (wpAny_newObj_type (wpAny_pure ⟨_, rfl, wpAny_pure h⟩) htake)
    | exact wpAny_bind (m := Builtin.Tuple.tupleExact _) (wpAny_newObj_type (wpAny_bind (wpAny_pure (wpAny_pure ⟨_, rfl, wpAny_pure h⟩))) htake)
    | exact wpAny_bind (wpAny_bind (m := Builtin.Tuple.tupleExact _) (wpAny_newObj_type (wpAny_pure (wpAny_pure ⟨_, rfl, wpAny_pure h⟩)) htake))
    | exact wpAny_bind (wpAny_bind (m := Builtin.Tuple.tupleExact _) (wpAny_newObj_type (wpAny_pure ⟨_, rfl, wpAny_pure h⟩) htake))
end

/-! ### displays, arguments -/
section
variable {X : Cx} {W : WX} {a b : Expr} {es : List Expr} {fa fb : EM} {fs : AM} {pos : Pos}
def nilA : AM := fun _ h => .ok [] h
def consA (f : EM) (g : AM) : AM := fun ρ h => (f ρ h).bind fun x h1 => (g ρ h1).bind fun xs h2 => .ok (x :: xs) h2
theorem ia_nil : PA X [] (TAi X.K W nilA) := by
  refine PA.imp pa_nil ?_
  rintro σ H Q ⟨ρ, m, h, re, sim, p⟩
  exact p.here sim _ RUs.nil
theorem ia_cons (ha : PE X a (TEi X.K W fa)) (hr : PA X es (TAi X.K W fs)) (hs : starEach (a :: es) X.env = (false, eval a X.env) :: starEach es X.env := by rfl) : PA X (a :: es) (TAi X.K W (consA fa fs)) := by
  refine PA.imp (pa_cons ha hr hs) ?_
  rintro σ H Q ⟨ρ, m, h, re, sim, p⟩
  refine ⟨ρ, m, h, re, sim, p.bind.mono (fun x h1 m1 H1 f1 s1 p1 v rv => ?_) fun _ _ _ _ _ _ _ z => z⟩
  refine ⟨ρ, m1, h1, re.step f1, s1, p1.bind.mono (fun xs h2 m2 H2 f2 s2 p2 vs rvs => ?_) fun _ _ _ _ _ _ _ z => z⟩
  exact p2.here s2 _ (RUs.cons (rv.step f2) rvs)
def tupE (f : AM) : EM := fun ρ h => (f ρ h).bind fun xs h1 => newT xs h1
def lstE (md : Bool) (f : AM) : EM := fun ρ h => (f ρ h).bind fun xs h1 => newL md xs h1
theorem ie_tup {x1} (h : PA X es (TAi X.K W fs)) : PE X (.Tuple es x1 pos) (TEi X.K W (tupE fs)) := by
  refine PE.imp (pe_tup h) ?_
  rintro σ H Q ⟨ρ, m, h, re, sim, p⟩
  exact ⟨ρ, m, h, re, sim, p.bind.mono (fun xs h1 m1 H1 f1 s1 p1 vs rvs => newT_ok s1 rvs p1) fun _ _ _ _ _ _ _ z => z⟩
theorem ie_lst (md : Bool) (h : PA X es (TAi X.K W fs)) : PE X (.List es pos) (TEi X.K W (lstE md fs)) := by
  refine PE.imp (pe_lst h) ?_
  rintro σ H Q ⟨ρ, m, h, re, sim, p⟩
  exact ⟨ρ, m, h, re, sim, p.bind.mono (fun xs h1 m1 H1 f1 s1 p1 vs rvs => newL_ok s1 rvs p1) fun _ _ _ _ _ _ _ z => z⟩

/-! ### x[i] of a list, a tuple, a text -/
def ixU (x y : U) (h : IH) : R U := match x, y with
  | .str z, .int i => if z.length ≤ sizeLine then (match atI z.cps.toList i with
    | some c => .ok (.str ⟨#[c]⟩) h
    | none => .bad) else .bad
  | .tup xs, .int i => match atI xs i with
    | some u => .ok u h
    | none => .bad
  | x, .int i => match itL h x with
    | some xs => match atI xs i with
      | some u => .ok u h
      | none => .bad
    | none => .bad
  | _, _ => .bad
theorem ixU_noe : NoE ixU := by
  intro x y h C u h'
  unfold ixU
  split
  · split
    · split <;> (intro z; cases z)
    · intro z; cases z
  · split <;> (intro z; cases z)
  · split
    · split <;> (intro z; cases z)
    · intro z; cases z
  · intro z; cases z
theorem RUs.atI {K : PySem.W.Frag} {m : Mm} {H : Hp} {xs : List U} {ys : List V} {i : Int} {x : U} (r : RUs K m H xs ys) (e : L2.atI xs i = some x) : ∃ y, L2.atI ys i = some y ∧ RU K m H x y := by
  unfold L2.atI at e ⊢
  rw [← r.length]
  cases q : ixN xs.length i with
  | none => rw [q] at e; cases e
  | some j =>
    rw [q] at e
    exact r.get e
theorem ixU_ok {K : PySem.W.Frag} : OpS K ixU (rIx K) := by
  intro m h H x y vx vy Q s rx ry p
  unfold ixU at p
  split at p
  · have rx : vx = .str _ := rx
    have ry : vy = .int _ := ry
    split at p
    · rename_i hz
      split at p
      · rename_i c hc
        exact .inr (.inr ⟨_, _, c, rx, ry, hz, hc, p.here s _ rfl⟩)
      · exact False.elim p
    · exact False.elim p
  · obtain ⟨a, ys, rfl, t, q⟩ := rx
    have ry : vy = .int _ := ry
    split at p
    · rename_i u hu
      obtain ⟨v, e, rv⟩ := q.atI hu
      exact .inr (.inl ⟨a, ys, _, v, rfl, ry, t.sq, e, p.here s _ rv⟩)
    · exact False.elim p
  · have ry : vy = .int _ := ry
    split at p
    · rename_i xs hx
      obtain ⟨a, ys, rfl, t, q⟩ := itL_ok s hx rx
      split at p
      · rename_i u hu
        obtain ⟨v, e, rv⟩ := q.atI hu
        exact .inl ⟨a, ys, _, v, rfl, ry, t, e, p.here s _ rv⟩
      · exact False.elim p
    · exact False.elim p
  · exact False.elim p
theorem ie_ix (ha : PE X a (TEi X.K W fa)) (hb : PE X b (TEi X.K W fb)) (hs : PlainIx b := by exact fun _ _ => rfl) : PE X (.Subscript a b pos) (TEi X.K W (bin ixU fa fb)) := PE.imp (pe_ix ix_seq ha hb hs) (tOp_of ixU_noe ixU_ok)

/-! ### slices -/
abbrev PM := Env → IH → R (Option Int)
def TOi (K : PySem.W.Frag) (W : WX) (f : PM) : TO := fun σ H Q => ∃ ρ m h, RE K m H ρ σ ∧ Sim K m h H ∧ Post K m H (f ρ h) (fun b _ _ H' => Q b H') (exW K W σ)
def noP : PM := fun _ h => .ok none h
def someP (f : EM) : PM := fun ρ h => (f ρ h).bind fun x h1 => match x with
  | .int i => .ok (some i) h1
  | _ => .bad
theorem PO.imp {e : Option Expr} {t t' : TO} (p : PO X e t) (h : ∀ σ H Q, t' σ H Q → t σ H Q) : PO X e t' := ⟨fun pins s σ H Q I q => p.run pins s σ H Q I (h _ _ _ q)⟩
theorem io_none : PO X none (TOi X.K W noP) := by
  refine PO.imp po_none ?_
  rintro σ H Q ⟨ρ, m, h, re, sim, p⟩
  exact p.here sim
theorem io_some (ha : PE X a (TEi X.K W fa)) : PO X (some a) (TOi X.K W (someP fa)) := by
  refine PO.imp (po_some ha) ?_
  rintro σ H Q ⟨ρ, m, h, re, sim, p⟩
  refine ⟨ρ, m, h, re, sim, p.bind.mono (fun x h1 m1 H1 f1 s1 p1 v rv => ?_) fun _ _ _ _ _ _ _ z => z⟩
  cases x with
  | int i => exact ⟨i, rv, p1.here s1⟩
  | _ => exact False.elim p1
/-- the items of xs[lo:hi] -/
def cut {α : Type} (xs : List α) (lo hi : Option Int) : List α := (xs.drop (HT.sIx xs.length 0 lo)).take (HT.sIx xs.length xs.length hi - HT.sIx xs.length 0 lo)
theorem RUs.cut {K : PySem.W.Frag} {m : Mm} {H : Hp} {xs : List U} {ys : List V} (r : RUs K m H xs ys) (lo hi : Option Int) : RUs K m H (PD.cut xs lo hi) (cutV ys lo hi) := by
  unfold PD.cut cutV
  rw [r.length]
  exact (r.drop _).take _
def putL (md : Bool) (xs : List U) (h : IH) : R U := if md then .ok (.ref h.length) (h ++ [.lst xs]) else .ok (.lst xs) h
theorem putL_ok {K : PySem.W.Frag} {m : Mm} {H : Hp} {h : IH} {md : Bool} {xs : List U} {ys : List V} {Q : VK} {W : Addr → U → IH → Mm → Hp → Prop} (s : Sim K m h H) (r : RUs K m H xs ys) (p : Post K m H (putL md xs h) (QU K Q) W) :
    ∀ p, H p = none → Q (.ref p) (upd H p (.lst ys)) := by
  intro q hq
  cases md with
  | true =>
    exact p (m.add q) _ (Fr.add hq) (s.add hq ⟨ys, rfl, r⟩) _ ⟨q, rfl, Mm.add_get s.len.symm⟩
  | false => exact p m _ (Fr.new hq) (s.new hq) _ ⟨q, ys, rfl, at_new s hq, r.step (Fr.new hq)⟩
def slU (md : Bool) (x : U) (lo hi : Option Int) (h : IH) : R U := match x with
  | .tup xs => .ok (.tup (cut xs lo hi)) h
  | .str z => if z.length ≤ sizeLine then .ok (.str (Txt.slice z lo hi)) h else .bad
  | x => match itL h x with
    | some xs => putL md (cut xs lo hi) h
    | none => .bad
def rSl (K : PySem.W.Frag) : V → Option Int → Option Int → Hp → VK → Prop := fun x lo hi H Q => rSlA K x lo hi H Q ∨ (C8.rSlX x lo hi H Q ∨ rSlL K x lo hi H Q)
theorem slR_all : SlR X (rSl X.K) := sl_tupA.or (C8.sl_txt.or sl_list)
theorem cutV_whole {xs : List V} {lo hi : Option Int} (h : HT.sIx xs.length 0 lo = 0 ∧ HT.sIx xs.length xs.length hi = xs.length) : cutV xs lo hi = xs := by
  unfold cutV
  rw [h.1, h.2]
  simp
theorem slU_ok {K : PySem.W.Frag} {m : Mm} {H : Hp} {h : IH} {md : Bool} {x : U} {v : V} {lo hi : Option Int} {Q : VK} {W : Addr → U → IH → Mm → Hp → Prop} (s : Sim K m h H) (r : RU K m H x v) (p : Post K m H (slU md x lo hi h) (QU K Q) W) : rSl K v lo hi H Q := by
  unfold slU at p
  split at p
  · obtain ⟨a, ys, rfl, t, q⟩ := r
    refine .inl ⟨a, ys, rfl, t.sq, fun hw => ?_, fun hw b hb => ?_⟩
    · have := q.cut lo hi
      rw [cutV_whole hw] at this
      exact p.here s _ ⟨a, ys, rfl, t, this⟩
    · exact p m _ (Fr.new hb) (s.new hb) _ ⟨b, _, rfl, .inl (at_new s hb), (q.cut lo hi).step (Fr.new hb)⟩
  · have r : v = .str _ := r
    split at p
    · rename_i hz
      exact .inr (.inl ⟨_, r, hz, p.here s _ rfl⟩)
    · exact False.elim p
  · split at p
    · rename_i xs hx
      obtain ⟨a, ys, rfl, t, q⟩ := itL_ok s hx r
      exact .inr (.inr ⟨a, ys, rfl, t, putL_ok s (q.cut lo hi) p⟩)
    · exact False.elim p
def slE (md : Bool) (f : EM) (g k : PM) : EM := fun ρ h => (f ρ h).bind fun x h1 => (g ρ h1).bind fun lo h2 => (k ρ h2).bind fun hi h3 => slU md x lo hi h3
theorem ie_sl (md : Bool) {lo hi : Option Expr} {fl fh : PM} {p2 : Pos} (ha : PE X a (TEi X.K W fa)) (hl : PO X lo (TOi X.K W fl)) (hh : PO X hi (TOi X.K W fh)) : PE X (.Subscript a (.Slice lo hi none p2) pos) (TEi X.K W (slE md fa fl fh)) := by
  refine PE.imp (pe_slice slR_all ha hl hh) ?_
  rintro σ H Q ⟨ρ, m, h, re, sim, p⟩
  refine ⟨ρ, m, h, re, sim, p.bind.mono (fun x h1 m1 H1 f1 s1 p1 v rv => ?_) fun _ _ _ _ _ _ _ z => z⟩
  refine ⟨ρ, m1, h1, re.step f1, s1, p1.bind.mono (fun l h2 m2 H2 f2 s2 p2 => ?_) fun _ _ _ _ _ _ _ z => z⟩
  refine ⟨ρ, m2, h2, re.step (f1.trans f2), s2, p2.bind.mono (fun u h3 m3 H3 f3 s3 p3 => ?_) fun _ _ _ _ _ _ _ z => z⟩
  exact slU_ok s3 (rv.step (f2.trans f3)) p3
/-- x[::-1] -/
def tBack (K : PySem.W.Frag) (te : TE) : TE := fun σ H Q => te σ H fun x H1 => ∃ a xs, x = .ref a ∧ ((SqL K H1 a xs ∧ ∀ p, H1 p = none → Q (.ref p) (upd H1 p (.lst xs.reverse))) ∨ (SqT K H1 a xs ∧ ∀ p, H1 p = none → Q (.ref p) (upd H1 p (.tup xs.reverse))))
theorem pe_back {te : TE} {k : Nat} {p1 p2 p3 : Pos} (he : PE X a te) : PE X (.Subscript a (.Slice none none (some (.UnaryOp .USub (.Constant (.int 1) k p1) p2)) p3) pos) (tBack X.K te) := by
  refine ⟨fun pins s σ H Q I h => ?_⟩
  refine Subscript_ (thn (he.run pins s σ H _ I h) fun v s1 ⟨x, H1, I1, r1, q1⟩ => ?_)
  obtain ⟨t, xs, ex, q⟩ := q1
  subst ex
  cases r1
  have hst : PO X (some (.UnaryOp .USub (.Constant (.int 1) k p1) p2)) (tPart (tUn (rU fun i => .int (-i)) (tC (.int 1)))) := po_some (pe_un un_neg pe_int)
  refine wpAny_Slice (thn (po_none.run pins s1 σ H1 (fun o H2 => o = none ∧ H2 = H1) I1 ⟨rfl, rfl⟩) fun vl s2 ⟨l, H2, I2, pl, el, e2⟩ => ?_)
  subst el e2
  refine thn (po_none.run pins s2 σ H2 (fun o H3 => o = none ∧ H3 = H2) I2 ⟨rfl, rfl⟩) fun vu s3 ⟨u, H3, I3, pu, eu, e3⟩ => ?_
  subst eu e3
  refine thn (hst.run pins s3 σ H3 (fun o H4 => o = some (-1) ∧ H4 = H3) I3 ⟨1, rfl, -1, rfl, rfl, rfl⟩) fun vs s4 ⟨o, H4, I4, ps, eo, e4⟩ => ?_
  subst eo e4
  have I5 : Inv X pins σ H4 { s4 with heap := s4.heap.push { cls := .type "slice", data := .fields #[vl, vu, vs] } } := I4.kept (t' := s4.toks) fun b ob q => Heap.get?_push_of_some _ q
  show wpAny (model X.prog X.w) X.A (subscriptTail a (.Slice none none (some (.UnaryOp .USub (.Constant (.int 1) k p1) p2)) p3) (.ref t) (.ref s4.heap.objs.size)) (EP X pins σ Q) X.xe { s4 with heap := s4.heap.push { cls := .type "slice", data := .fields #[vl, vu, vs] } }
  rcases q with ⟨hx, q⟩ | ⟨hx, q⟩
  · obtain ⟨its, r, ht, hz⟩ := I5.list hx
    have hlen := r.length
    refine tail_any (ops := [.ref t, .ref s4.heap.objs.size]) ht.isList.typeIs (PySem.slot_list_getitem.lookup) ?_ (by with_unfolding_all rfl)
    refine wpAny_getItem_list_slice ht.isList (Heap.IsSliceOf.new _ vl vu vs) pl pu ps (by decide) ?_ (by rw [List.size_toArray]; omega)
    rw [PySem.W.krv_pick]
    refine ⟨.ref _, _, I5.laid (t' := s4.toks) (o := .lst xs.reverse) (fun b ob q => Heap.get?_push_of_some _ q) (Nat.le_refl _) ?_, rfl, q _ (I5.hok.fresh (Nat.le_refl _))⟩
    exact ⟨by rw [List.length_reverse]; exact hz, _, 0, r.reverse, Heap.get?_push_size _ rfl⟩
  · obtain ⟨its, r, ht, hz⟩ := I5.tuple hx
    have hlen := r.length
    cases pl
    cases pu
    cases ps
    refine tail_any (ops := [.ref t, .ref s4.heap.objs.size]) ht.typeIs (PyProof.Rows.slot_tuple_getitem.lookup) ?_ (by with_unfolding_all rfl)
    refine tup_back ht (Heap.IsSliceOf.new _ _ _ _) (by omega) ?_
    refine ⟨.ref _, _, I5.laid (t' := s4.toks) (o := .tup xs.reverse) (fun b ob q => Heap.get?_push_of_some _ q) (Nat.le_refl _) ?_, rfl, q _ (I5.hok.fresh (Nat.le_refl _))⟩
    exact ⟨by rw [List.length_reverse]; exact hz, _, r.reverse, IsTup.new _ _⟩
def backU (md : Bool) (x : U) (h : IH) : R U := match x with
  | .tup xs => .ok (.tup xs.reverse) h
  | x => match itL h x with
    | some xs => putL md xs.reverse h
    | none => .bad
def un (o : U → IH → R U) (f : EM) : EM := fun ρ h => (f ρ h).bind fun x h1 => o x h1
theorem ie_back (md : Bool) {k : Nat} {p1 p2 p3 : Pos} (ha : PE X a (TEi X.K W fa)) : PE X (.Subscript a (.Slice none none (some (.UnaryOp .USub (.Constant (.int 1) k p1) p2)) p3) pos) (TEi X.K W (un (backU md) fa)) := by
  refine PE.imp (pe_back ha) ?_
  rintro σ H Q ⟨ρ, m, h, re, sim, p⟩
  refine ⟨ρ, m, h, re, sim, p.bind.mono (fun x h1 m1 H1 f1 s1 p1 v rv => ?_) fun _ _ _ _ _ _ _ z => z⟩
  unfold backU at p1
  split at p1
  · obtain ⟨a, ys, rfl, t, q⟩ := rv
    exact ⟨a, ys, rfl, .inr ⟨t.sq, fun b hb => p1 m1 _ (Fr.new hb) (s1.new hb) _ ⟨b, _, rfl, .inl (at_new s1 hb), q.reverse.step (Fr.new hb)⟩⟩⟩
  · split at p1
    · rename_i xs hx
      obtain ⟨a, ys, rfl, t, q⟩ := itL_ok s1 hx rv
      exact ⟨a, ys, rfl, .inl ⟨t, putL_ok s1 q.reverse p1⟩⟩
    · exact False.elim p1
end
end PD

set_option Elab.async false
set_option linter.all false
set_option maxRecDepth 100000
set_option maxHeartbeats 4000000
namespace PD
open PySem PySem.Spec PyProof.Rows L2
/-! ### calls of built-ins -/
def NoEL (o : List U → IH → R U) : Prop := ∀ xs h C u h', o xs h ≠ .exc C u h'
def CallS (K : PySem.W.Frag) (o : List U → IH → R U) (r : List V → Hp → VK → Prop) : Prop := ∀ (m : Mm) (h : IH) (H : Hp) (xs : List U) (vs : List V) (Q : VK), Sim K m h H → RUs K m H xs vs → Post K m H (o xs h) (QU K Q) noW → r vs H Q
def callA (o : List U → IH → R U) (f : AM) : EM := fun ρ h => (f ρ h).bind fun xs h1 => o xs h1
section
variable {X : Cx} {W : WX} {a b : Expr} {es : List Expr} {fa fb : EM} {fs : AM} {pos p : Pos} {x : Str} {id T : String} {r : List V → Hp → VK → Prop} {o : List U → IH → R U}
theorem tCB_of (hn : NoEL o) (hS : CallS X.K o r) : ∀ σ H Q, TEi X.K W (callA o fs) σ H Q → tCB r (TAi X.K W fs) σ H Q := by
  rintro σ H Q ⟨ρ, m, h, re, sim, p⟩
  exact ⟨ρ, m, h, re, sim, p.bind.mono (fun xs h1 m1 H1 f1 s1 p1 vs rvs => hS m1 h1 H1 xs vs Q s1 rvs (p1.noW (hn xs h1))) fun _ _ _ _ _ _ _ z => z⟩
theorem ie_callB (hc : CallR X (.builtin id) r) (hn : NoEL o) (hS : CallS X.K o r) (hg : Gl X x) (hm : X.mg x = none) (hv : bootBuiltins x = some (.builtin id)) (ha : PA X (a :: es) (TAi X.K W fs)) (hnn : x ≠ "__name__" := by decide) (hdb : (x == ("__debug__" : Str)) = false := by decide)
    (he : starEach (a :: es) X.env = (false, eval a X.env) :: starEach es X.env := by rfl) (hpl : (backTo pos (starEach es X.env)).any (·.1) = false := by rfl) : PE X (.Call (.Name x p) (a :: es) [] pos) (TEi X.K W (callA o fs)) :=
  PE.imp (pe_callB hc hg hm hv ha hnn hdb he hpl) (tCB_of hn hS)
theorem ie_callTy (hc : CallR X (.type T) r) (hn : NoEL o) (hS : CallS X.K o r) (hg : Gl X x) (hm : X.mg x = none) (hv : bootBuiltins x = some (.type T)) (ha : PA X (a :: es) (TAi X.K W fs)) (hnn : x ≠ "__name__" := by decide) (hdb : (x == ("__debug__" : Str)) = false := by decide)
    (he : starEach (a :: es) X.env = (false, eval a X.env) :: starEach es X.env := by rfl) (hpl : (backTo pos (starEach es X.env)).any (·.1) = false := by rfl) : PE X (.Call (.Name x p) (a :: es) [] pos) (TEi X.K W (callA o fs)) :=
  PE.imp (pe_callTy hc hg hm hv ha hnn hdb he hpl) (tCB_of hn hS)
/-- one argument -/
def on1 (o : U → IH → R U) (xs : List U) (h : IH) : R U := match xs with
  | [x] => o x h
  | _ => .bad
def NoE1 (o : U → IH → R U) : Prop := ∀ x h C u h', o x h ≠ .exc C u h'
theorem on1_noe {o : U → IH → R U} (hn : NoE1 o) : NoEL (on1 o) := by
  intro xs h C u h'
  unfold on1
  split
  · exact hn _ _ _ _ _
  · intro z; cases z
theorem on1_ok {K : PySem.W.Frag} {o : U → IH → R U} {r : List V → Hp → VK → Prop} (hS : ∀ (m : Mm) (h : IH) (H : Hp) (x : U) (v : V) (Q : VK), Sim K m h H → RU K m H x v → Post K m H (o x h) (QU K Q) noW → r [v] H Q) : CallS K (on1 o) r := by
  intro m h H xs vs Q s rs p
  unfold on1 at p
  split at p
  · obtain ⟨v, t, rfl, rv, rt⟩ := rs
    have rt : t = [] := rt
    subst rt
    exact hS m h H _ v Q s rv p
  · exact False.elim p
def on2 (o : U → U → IH → R U) (xs : List U) (h : IH) : R U := match xs with
  | [x, y] => o x y h
  | _ => .bad
theorem on2_noe {o : U → U → IH → R U} (hn : NoE o) : NoEL (on2 o) := by
  intro xs h C u h'
  unfold on2
  split
  · exact hn _ _ _ _ _ _
  · intro z; cases z
theorem on2_ok {K : PySem.W.Frag} {o : U → U → IH → R U} {r : List V → Hp → VK → Prop} (hS : ∀ (m : Mm) (h : IH) (H : Hp) (x y : U) (v w : V) (Q : VK), Sim K m h H → RU K m H x v → RU K m H y w → Post K m H (o x y h) (QU K Q) noW → r [v, w] H Q) : CallS K (on2 o) r := by
  intro m h H xs vs Q s rs p
  unfold on2 at p
  split at p
  · obtain ⟨v, t, rfl, rv, rt⟩ := rs
    obtain ⟨w, t2, rfl, rw, rt⟩ := rt
    have rt : t2 = [] := rt
    subst rt
    exact hS m h H _ _ v w Q s rv rw p
  · exact False.elim p

/-! ### len -/
def lenU (x : U) (h : IH) : R U := match x with
  | .str z => if z.length ≤ sizeLine then .ok (.int z.length) h else .bad
  | .tup xs => .ok (.int xs.length) h
  | .lst xs => .ok (.int xs.length) h
  | .scr xs => .ok (.int xs.length) h
  | .ref n => match h[n]? with
    | some (.lst xs) => .ok (.int xs.length) h
    | some (.dk kvs) => .ok (.int kvs.length) h
    | some (.dt kvs) => .ok (.int kvs.length) h
    | _ => .bad
  | _ => .bad
theorem lenU_noe : NoE1 lenU := by
  intro x h C u h'
  unfold lenU
  split
  · split <;> (intro z; cases z)
  · intro z; cases z
  · intro z; cases z
  · intro z; cases z
  · split <;> (intro z; cases z)
  · intro z; cases z
def rLenAll (K : PySem.W.Frag) : List V → Hp → VK → Prop := fun xs H Q => (∃ p ys, xs = [.ref p] ∧ (SqL K H p ys ∨ SqT K H p ys) ∧ Q (.int ys.length) H) ∨ ((∃ z, xs = [.str z] ∧ z.length ≤ sizeLine ∧ Q (.int z.length) H) ∨ ((∃ a kvs, xs = [V.ref a] ∧ H a = some (.dK kvs) ∧ Q (.int kvs.length) H) ∨ rLenT xs H Q))
theorem call_lenAll : CallR X (.builtin "len") (rLenAll X.K) := call_len_seq.or (call_len_str.or (call_lenD.or call_len_dT))
theorem lenU_ok {K : PySem.W.Frag} {m : Mm} {h : IH} {H : Hp} {x : U} {v : V} {Q : VK} (s : Sim K m h H) (r : RU K m H x v) (p : Post K m H (lenU x h) (QU K Q) noW) : rLenAll K [v] H Q := by
  unfold lenU at p
  split at p
  · have r : v = .str _ := r
    subst r
    split at p
    · rename_i hz
      exact .inr (.inl ⟨_, rfl, hz, p.here s _ rfl⟩)
    · exact False.elim p
  · obtain ⟨a, ys, rfl, t, q⟩ := r
    exact .inl ⟨a, ys, rfl, .inr t.sq, by have := p.here s _ rfl; rw [q.length] at this; exact this⟩
  · obtain ⟨a, ys, rfl, t, q⟩ := r
    exact .inl ⟨a, ys, rfl, .inl (SqL.of t.h), by have := p.here s _ rfl; rw [q.length] at this; exact this⟩
  · obtain ⟨a, ys, rfl, t, q⟩ := r
    exact .inl ⟨a, ys, rfl, .inl t.sq, by have := p.here s _ rfl; rw [q.length] at this; exact this⟩
  · obtain ⟨a, rfl, q⟩ := r
    split at p
    · rename_i xs hh
      obtain ⟨ys, e2, r2⟩ := s.lst hh q
      exact .inl ⟨a, ys, rfl, .inl (SqL.of e2), by have := p.here s _ rfl; rw [r2.length] at this; exact this⟩
    · rename_i kvs hh
      obtain ⟨ho, e1, kws, rfl, e2, r2⟩ := s.obj _ a _ q hh
      have el : kvs.length = kws.length := by simpa using congrArg List.length e2
      exact .inr (.inr (.inl ⟨a, kws, rfl, e1, by have := p.here s _ rfl; rw [el] at this; exact this⟩))
    · rename_i kvs hh
      obtain ⟨ho, e1, kws, rfl, e2, r2⟩ := s.obj _ a _ q hh
      have el : kvs.length = kws.length := by simpa using congrArg List.length e2
      exact .inr (.inr (.inr ⟨a, kws, rfl, e1, by have := p.here s _ rfl; rw [el] at this; exact this⟩))
    · exact False.elim p
  · exact False.elim p
theorem ie_len (hg : Gl X "len") (hm : X.mg "len" = none) (ha : PA X [a] (TAi X.K W fs)) (he : starEach [a] X.env = (false, eval a X.env) :: starEach [] X.env := by rfl) (hpl : (backTo pos (starEach [] X.env)).any (·.1) = false := by rfl) :
    PE X (.Call (.Name "len" p) [a] [] pos) (TEi X.K W (callA (on1 lenU) fs)) := ie_callB call_lenAll (on1_noe lenU_noe) (on1_ok fun _ _ _ _ _ _ s r p => lenU_ok s r p) hg hm boot_len ha (by decide) (by decide) he hpl

/-! ### abs, max, min, int -/
def absU (x : U) (h : IH) : R U := match x with
  | .int i => .ok (.int (if i < 0 then -i else i)) h
  | _ => .bad
theorem ie_abs (hg : Gl X "abs") (hm : X.mg "abs" = none) (ha : PA X [a] (TAi X.K W fs)) (he : starEach [a] X.env = (false, eval a X.env) :: starEach [] X.env := by rfl) (hpl : (backTo pos (starEach [] X.env)).any (·.1) = false := by rfl) :
    PE X (.Call (.Name "abs" p) [a] [] pos) (TEi X.K W (callA (on1 absU) fs)) :=
  ie_callB call_abs (on1_noe fun x h C u h' => by unfold absU; split <;> (intro z; cases z)) (on1_ok fun m h H x v Q s r p => by
    unfold absU at p
    split at p
    · have r : v = .int _ := r
      exact ⟨_, by rw [r], p.here s _ rfl⟩
    · exact False.elim p) hg hm (by decide +kernel) ha (by decide) (by decide) he hpl
def max2U (x y : U) (h : IH) : R U := match x, y with
  | .int i, .int j => .ok (.int (if j > i then j else i)) h
  | _, _ => .bad
def min2U (x y : U) (h : IH) : R U := match x, y with
  | .int i, .int j => .ok (.int (if j < i then j else i)) h
  | _, _ => .bad
theorem ie_max2 (hc : X.calm = true) (hg : Gl X "max") (hm : X.mg "max" = none) (ha : PA X (a :: es) (TAi X.K W fs)) (he : starEach (a :: es) X.env = (false, eval a X.env) :: starEach es X.env := by rfl) (hpl : (backTo pos (starEach es X.env)).any (·.1) = false := by rfl) :
    PE X (.Call (.Name "max" p) (a :: es) [] pos) (TEi X.K W (callA (on2 max2U) fs)) :=
  ie_callB (call_max2 hc) (on2_noe fun x y h C u h' => by unfold max2U; split <;> (intro z; cases z)) (on2_ok fun m h H x y v w Q s r r' p => by
    unfold max2U at p
    split at p
    · have r : v = .int _ := r
      have r' : w = .int _ := r'
      exact ⟨_, _, by rw [r, r'], p.here s _ rfl⟩
    · exact False.elim p) hg hm (by decide +kernel) ha (by decide) (by decide) he hpl
theorem ie_min2 (hc : X.calm = true) (hg : Gl X "min") (hm : X.mg "min" = none) (ha : PA X (a :: es) (TAi X.K W fs)) (he : starEach (a :: es) X.env = (false, eval a X.env) :: starEach es X.env := by rfl) (hpl : (backTo pos (starEach es X.env)).any (·.1) = false := by rfl) :
    PE X (.Call (.Name "min" p) (a :: es) [] pos) (TEi X.K W (callA (on2 min2U) fs)) :=
  ie_callB (call_min2 hc) (on2_noe fun x y h C u h' => by unfold min2U; split <;> (intro z; cases z)) (on2_ok fun m h H x y v w Q s r r' p => by
    unfold min2U at p
    split at p
    · have r : v = .int _ := r
      have r' : w = .int _ := r'
      exact ⟨_, _, by rw [r, r'], p.here s _ rfl⟩
    · exact False.elim p) hg hm (by decide +kernel) ha (by decide) (by decide) he hpl
def intU (x : U) (h : IH) : R U := match x with
  | .int i => .ok (.int i) h
  | .bl b => .ok (.int (if b = true then 1 else 0)) h
  | _ => .bad
theorem ie_int1 (hg : Gl X "int") (hm : X.mg "int" = none) (ha : PA X [a] (TAi X.K W fs)) (he : starEach [a] X.env = (false, eval a X.env) :: starEach [] X.env := by rfl) (hpl : (backTo pos (starEach [] X.env)).any (·.1) = false := by rfl) :
    PE X (.Call (.Name "int" p) [a] [] pos) (TEi X.K W (callA (on1 intU) fs)) :=
  ie_callTy call_int1 (on1_noe fun x h C u h' => by unfold intU; split <;> (intro z; cases z)) (on1_ok fun m h H x v Q s r p => by
    unfold intU at p
    split at p
    · have r : v = .int _ := r
      exact .inl ⟨_, by rw [r], p.here s _ rfl⟩
    · have r : v = .bl _ := r
      exact .inr ⟨_, by rw [r], p.here s _ rfl⟩
    · exact False.elim p) hg hm (by decide +kernel) ha (by decide) (by decide) he hpl

/-! ### tuple(x), list(x) -/
def tupleU (x : U) (h : IH) : R U := match x with
  | .tup xs => .ok (.tup xs) h
  | x => match itL h x with
    | some xs => .ok (.tup xs) h
    | none => .bad
theorem ie_tuple (hg : Gl X "tuple") (hm : X.mg "tuple" = none) (ha : PA X [a] (TAi X.K W fs)) (he : starEach [a] X.env = (false, eval a X.env) :: starEach [] X.env := by rfl) (hpl : (backTo pos (starEach [] X.env)).any (·.1) = false := by rfl) :
    PE X (.Call (.Name "tuple" p) [a] [] pos) (TEi X.K W (callA (on1 tupleU) fs)) :=
  ie_callTy call_tuple_of (on1_noe fun x h C u h' => by
    unfold tupleU
    split
    · intro z; cases z
    · split <;> (intro z; cases z)) (on1_ok fun m h H x v Q s r p => by
    unfold tupleU at p
    split at p
    · obtain ⟨a, ys, rfl, t, q⟩ := r
      exact ⟨a, ys, rfl, .inr ⟨t.sq, p.here s _ ⟨a, ys, rfl, t, q⟩⟩⟩
    · split at p
      · rename_i xs hx
        obtain ⟨a, ys, rfl, t, q⟩ := itL_ok s hx r
        exact ⟨a, ys, rfl, .inl ⟨t, fun b hb => p m _ (Fr.new hb) (s.new hb) _ ⟨b, _, rfl, .inl (at_new s hb), q.step (Fr.new hb)⟩⟩⟩
      · exact False.elim p) hg hm (by decide +kernel) ha (by decide) (by decide) he hpl
def keyU : Key → U
  | .inl i => .int i
  | .inr x => .str x
theorem RUs.keys {K : PySem.W.Frag} {m : Mm} {H : Hp} : ∀ ks : List Key, RUs K m H (ks.map keyU) (ks.map kV)
  | [] => RUs.nil
  | .inl i :: ks => RUs.cons rfl (RUs.keys ks)
  | .inr x :: ks => RUs.cons rfl (RUs.keys ks)
def listU (md : Bool) (x : U) (h : IH) : R U := match x with
  | .tup xs => putL md xs h
  | .ref n => match h[n]? with
    | some (.lst xs) => putL md xs h
    | some (.dk kvs) => putL md (kvs.map fun kv => keyU kv.1) h
    | _ => .bad
  | .lst xs => putL md xs h
  | .scr xs => putL md xs h
  | _ => .bad
theorem putL_noe {md : Bool} {xs : List U} {h : IH} {C : Addr} {u : U} {h' : IH} : putL md xs h ≠ .exc C u h' := by
  unfold putL
  cases md <;> (intro z; simp at z)
theorem ie_list (md : Bool) (hc : X.calm = true) (hg : Gl X "list") (hm : X.mg "list" = none) (ha : PA X [a] (TAi X.K W fs)) (he : starEach [a] X.env = (false, eval a X.env) :: starEach [] X.env := by rfl) (hpl : (backTo pos (starEach [] X.env)).any (·.1) = false := by rfl) :
    PE X (.Call (.Name "list" p) [a] [] pos) (TEi X.K W (callA (on1 (listU md)) fs)) :=
  ie_callTy (call_list_of.or (call_list_dK hc)) (on1_noe fun x h C u h' => by
    unfold listU
    split
    · exact putL_noe
    · split
      · exact putL_noe
      · exact putL_noe
      · intro z; cases z
    · exact putL_noe
    · exact putL_noe
    · intro z; cases z) (on1_ok fun m h H x v Q s r p => by
    unfold listU at p
    split at p
    · obtain ⟨a, ys, rfl, t, q⟩ := r
      exact .inl ⟨a, ys, rfl, .inr t.sq, putL_ok s q p⟩
    · obtain ⟨a, rfl, q⟩ := r
      split at p
      · rename_i xs hh
        obtain ⟨ys, e2, r2⟩ := s.lst hh q
        exact .inl ⟨a, ys, rfl, .inl (SqL.of e2), putL_ok s r2 p⟩
      · rename_i kvs hh
        obtain ⟨ho, e1, kws, rfl, e2, r2⟩ := s.obj _ a _ q hh
        have eq1 : (kvs.map fun kv => keyU kv.1) = (kws.map (·.1)).map keyU := by rw [← e2, List.map_map]; rfl
        have eq2 : (kws.map fun kv => kV kv.1) = (kws.map (·.1)).map kV := by rw [List.map_map]; rfl
        rw [eq1] at p
        exact .inr ⟨a, kws, rfl, e1, by rw [eq2]; exact putL_ok s (RUs.keys _) p⟩
      · exact False.elim p
    · obtain ⟨a, ys, rfl, t, q⟩ := r
      exact .inl ⟨a, ys, rfl, .inl (SqL.of t.h), putL_ok s q p⟩
    · obtain ⟨a, ys, rfl, t, q⟩ := r
      exact .inl ⟨a, ys, rfl, .inl t.sq, putL_ok s q p⟩
    · exact False.elim p) hg hm (by decide +kernel) ha (by decide) (by decide) he hpl

/-! ### all, any, sum -/
def bools : List U → Option (List Bool)
  | [] => some []
  | .bl b :: xs => (bools xs).map (b :: ·)
  | _ => none
theorem bools_ok {K : PySem.W.Frag} {m : Mm} {H : Hp} : ∀ {xs : List U} {ys : List V} {bs : List Bool}, bools xs = some bs → RUs K m H xs ys → ys = bs.map V.bl
  | [], _, _, e, r => by
    have r : _ = [] := r
    cases e; exact r
  | .bl b :: xs, _, bs, e, r => by
    obtain ⟨y, t, rfl, r1, r2⟩ := r
    have r1 : y = .bl b := r1
    unfold bools at e
    cases z : bools xs with
    | none => rw [z] at e; cases e
    | some cs => rw [z] at e; cases e; rw [r1, bools_ok z r2]; rfl
  | .non :: xs, _, _, e, _ => by cases e
  | .int _ :: xs, _, _, e, _ => by cases e
  | .str _ :: xs, _, _, e, _ => by cases e
  | .tup _ :: xs, _, _, e, _ => by cases e
  | .lst _ :: xs, _, _, e, _ => by cases e
  | .scr _ :: xs, _, _, e, _ => by cases e
  | .ref _ :: xs, _, _, e, _ => by cases e
  | .adr _ :: xs, _, _, e, _ => by cases e
  | .exc _ _ :: xs, _, _, e, _ => by cases e
def allU (x : U) (h : IH) : R U := match (itL h x).bind bools with
  | some bs => .ok (.bl (bs.all fun b => b)) h
  | none => .bad
def anyU (x : U) (h : IH) : R U := match (itL h x).bind bools with
  | some bs => .ok (.bl (bs.any fun b => b)) h
  | none => .bad
theorem bools_at {K : PySem.W.Frag} {m : Mm} {h : IH} {H : Hp} {x : U} {v : V} {bs : List Bool} (s : Sim K m h H) (r : RU K m H x v) (e : (itL h x).bind bools = some bs) : ∃ a, v = .ref a ∧ SqL K H a (bs.map V.bl) := by
  cases z : itL h x with
  | none => rw [z] at e; cases e
  | some xs =>
    rw [z] at e
    obtain ⟨a, ys, rfl, t, q⟩ := itL_ok s z r
    exact ⟨a, rfl, by rw [← bools_ok e q]; exact t⟩
theorem ie_all (hc : X.calm = true) (hg : Gl X "all") (hm : X.mg "all" = none) (ha : PA X [a] (TAi X.K W fs)) (he : starEach [a] X.env = (false, eval a X.env) :: starEach [] X.env := by rfl) (hpl : (backTo pos (starEach [] X.env)).any (·.1) = false := by rfl) :
    PE X (.Call (.Name "all" p) [a] [] pos) (TEi X.K W (callA (on1 allU) fs)) :=
  ie_callB (cr_all hc) (on1_noe fun x h C u h' => by unfold allU; split <;> (intro z; cases z)) (on1_ok fun m h H x v Q s r p => by
    unfold allU at p
    split at p
    · rename_i bs e
      obtain ⟨a, rfl, t⟩ := bools_at s r e
      exact ⟨a, bs, rfl, t, p.here s _ rfl⟩
    · exact False.elim p) hg hm (by decide +kernel) ha (by decide) (by decide) he hpl
theorem ie_any (hc : X.calm = true) (hg : Gl X "any") (hm : X.mg "any" = none) (ha : PA X [a] (TAi X.K W fs)) (he : starEach [a] X.env = (false, eval a X.env) :: starEach [] X.env := by rfl) (hpl : (backTo pos (starEach [] X.env)).any (·.1) = false := by rfl) :
    PE X (.Call (.Name "any" p) [a] [] pos) (TEi X.K W (callA (on1 anyU) fs)) :=
  ie_callB (cr_any hc) (on1_noe fun x h C u h' => by unfold anyU; split <;> (intro z; cases z)) (on1_ok fun m h H x v Q s r p => by
    unfold anyU at p
    split at p
    · rename_i bs e
      obtain ⟨a, rfl, t⟩ := bools_at s r e
      exact ⟨a, bs, rfl, t, p.here s _ rfl⟩
    · exact False.elim p) hg hm (by decide +kernel) ha (by decide) (by decide) he hpl

/-! ### repr of data -/
def rRepr (K : PySem.W.Frag) : List V → Hp → VK → Prop := fun xs H Q => ∃ x d, xs = [x] ∧ Dp K H x d ∧ SeqAt.shaped d = true ∧ d.showable = true ∧ d.shown.length ≤ sizeLine ∧ Q (.str d.shown) H
theorem call_repr (hgd : X.A.guards = some []) (hu : X.A.units + 66 < cLine) : CallR X (.builtin "repr") (rRepr X.K) := by
  rintro pins s σ H xs us Q I r ⟨x, d, rfl, hd, sh, sw, hz, q⟩
  obtain ⟨u, rfl, rx⟩ := vals1 r
  cases d with
  | none => cases hd; cases rx; exact PySem.P.repr_of_none ⟨.str "None", H, I.tok _, ⟨_, rfl⟩, q⟩
  | bool b => cases hd; cases rx; exact PySem.P.repr_of_bool ⟨.str (if b then "True" else "False"), H, I.tok _, ⟨_, rfl⟩, by cases b <;> exact q⟩
  | int i =>
    cases hd
    obtain ⟨t, rfl⟩ := rx
    exact PySem.P.repr_of_int (by simpa [PyData.showable] using sw) ⟨.str (toString i), H, I.tok _, ⟨_, rfl⟩, by rw [PyData.shown_int] at q; exact q⟩
  | str z =>
    cases hd
    obtain ⟨t, rfl⟩ := rx
    exact PySem.P.repr_of_str ⟨.str (reprText z), H, I.tok _, ⟨_, rfl⟩, by rw [PyData.shown_str] at q; exact q⟩ (by rw [PyData.shown_str] at hz; exact hz)
  | dict kvs => cases hd
  | list ds =>
    have hdep := SeqAt.depth_of_shaped sh
    have hcl := SeqAt.canLay_of_shaped sh
    have hnd := PyData.hasDict_of_canLay _ hcl
    obtain ⟨as, rr⟩ := Dp.reads I _ x u hd rx
    cases hd
    cases rx
    exact repr_of_reads' rr sw (fun z => by rw [hnd] at z; cases z) hgd (by omega) (fun _ _ e => e) (fun h' t tk k => ⟨.str _, H, I.kept k, ⟨_, rfl⟩, q⟩) hz
  | tuple ds =>
    have hdep := SeqAt.depth_of_shaped sh
    have hcl := SeqAt.canLay_of_shaped sh
    have hnd := PyData.hasDict_of_canLay _ hcl
    obtain ⟨as, rr⟩ := Dp.reads I _ x u hd rx
    cases hd
    cases rx
    exact repr_of_reads' rr sw (fun z => by rw [hnd] at z; cases z) hgd (by omega) (fun _ _ e => e) (fun h' t tk k => ⟨.str _, H, I.kept k, ⟨_, rfl⟩, q⟩) hz
def reprU (x : U) (h : IH) : R U := match tD h x with
  | some d => if SeqAt.shaped d = true ∧ d.showable = true ∧ d.shown.length ≤ sizeLine then .ok (.str d.shown) h else .bad
  | none => .bad
theorem ie_repr (hgd : X.A.guards = some []) (hu : X.A.units + 66 < cLine) (hg : Gl X "repr") (hm : X.mg "repr" = none) (ha : PA X [a] (TAi X.K W fs)) (he : starEach [a] X.env = (false, eval a X.env) :: starEach [] X.env := by rfl) (hpl : (backTo pos (starEach [] X.env)).any (·.1) = false := by rfl) :
    PE X (.Call (.Name "repr" p) [a] [] pos) (TEi X.K W (callA (on1 reprU) fs)) :=
  ie_callB (call_repr hgd hu) (on1_noe fun x h C u h' => by
    unfold reprU
    split
    · split <;> (intro z; cases z)
    · intro z; cases z) (on1_ok fun m h H x v Q s r p => by
    unfold reprU at p
    split at p
    · rename_i d hd
      split at p
      · rename_i hc
        exact ⟨v, d, rfl, tD_ok s hd r, hc.1, hc.2.1, hc.2.2, p.here s _ rfl⟩
      · exact False.elim p
    · exact False.elim p) hg hm (by decide +kernel) ha (by decide) (by decide) he hpl

/-! ### isinstance of a built-in class -/
def tyN (h : IH) : U → Option String
  | .non => some "NoneType"
  | .bl _ => some "bool"
  | .int _ => some "int"
  | .str _ => some "str"
  | .tup _ => some "tuple"
  | .lst _ => some "list"
  | .scr _ => some "list"
  | .ref n => match h[n]? with
    | some (.lst _) => some "list"
    | some (.dk _) => some "dict"
    | some (.dt _) => some "dict"
    | _ => none
  | _ => none
theorem tyN_ok {K : PySem.W.Frag} {m : Mm} {h : IH} {H : Hp} {x : U} {v : V} {T : String} (s : Sim K m h H) (r : RU K m H x v) (e : tyN h x = some T) : TyX K H v (.type T) := by
  cases x with
  | non => have r : v = .non := r; cases e; subst r; exact .base .non
  | bl b => have r : v = .bl b := r; cases e; subst r; exact .base (.bl b)
  | int b => have r : v = .int b := r; cases e; subst r; exact .base (.int b)
  | str b => have r : v = .str b := r; cases e; subst r; exact .base (.str b)
  | tup xs =>
    obtain ⟨a, ys, rfl, t, q⟩ := r
    cases e
    rcases t with t | ⟨o, _, _, t, c, _⟩
    · exact .base (.tup t.h)
    · exact .kTuple t c
  | lst xs => obtain ⟨a, ys, rfl, t, q⟩ := r; cases e; exact .base (.lst t.h)
  | scr xs =>
    obtain ⟨a, ys, rfl, t, q⟩ := r
    cases e
    rcases t with ⟨ob, t⟩ | ⟨o, _, _, t, c, _⟩
    · exact .base (.frz t.h)
    · exact .kList t c
  | ref n =>
    obtain ⟨a, rfl, q⟩ := r
    have e : (match h[n]? with
    | some (.lst _) => some "list"
    | some (.dk _) => some "dict"
    | some (.dt _) => some "dict"
    | _ => none) = some T := e
    split at e
    · rename_i xs hh
      cases e
      obtain ⟨ys, e2, r2⟩ := s.lst hh q
      exact .base (.lst e2)
    · rename_i kvs hh
      cases e
      obtain ⟨ho, e1, kws, rfl, e2, r2⟩ := s.obj _ a _ q hh
      exact .base (.dK e1)
    · rename_i kvs hh
      cases e
      obtain ⟨ho, e1, kws, rfl, e2, r2⟩ := s.obj _ a _ q hh
      exact .base (.dT e1)
    · cases e
  | adr a => cases e
  | exc C u => cases e
  | dic b c => cases e
def isiU (T : String) (x : U) (h : IH) : R U := match tyN h x with
  | some S => match kitB S T with
    | some b => .ok (.bl b) h
    | none => .bad
  | none => .bad
theorem ie_isi {T : String} {xT : Str} {pT : Pos} (hg : Gl X "isinstance") (hm : X.mg "isinstance" = none) (hgT : Gl X xT) (hmT : X.mg xT = none) (hvT : bootBuiltins xT = some (.type T)) (ha : PE X a (TEi X.K W fa))
    (hnT : xT ≠ "__name__" := by decide) (hdT : (xT == ("__debug__" : Str)) = false := by decide)
    (he : starEach [a, .Name xT pT] X.env = (false, eval a X.env) :: starEach [.Name xT pT] X.env := by rfl) (he2 : starEach [.Name xT pT] X.env = (false, eval (.Name xT pT) X.env) :: starEach [] X.env := by rfl) (hpl : (backTo pos (starEach [.Name xT pT] X.env)).any (·.1) = false := by rfl) :
    PE X (.Call (.Name "isinstance" p) [a, .Name xT pT] [] pos) (TEi X.K W (un (isiU T) fa)) := by
  refine PE.imp (pe_callB (call_isi (X := X)) hg hm (by decide +kernel) (pa_cons ha (pa_cons (pe_bltn (v := .ty T) hgT hmT hvT rfl hnT hdT) pa_nil he2) he) (by decide) (by decide) he hpl) ?_
  rintro σ H Q ⟨ρ, m, h, re, sim, p⟩
  refine ⟨ρ, m, h, re, sim, p.bind.mono (fun x h1 m1 H1 f1 s1 p1 v rv => ?_) fun _ _ _ _ _ _ _ z => z⟩
  unfold isiU at p1
  split at p1
  · rename_i S hS
    split at p1
    · rename_i b hb
      exact ⟨v, .ty T, .type S, .type T, b, rfl, .ty T, tyN_ok s1 rv hS, kit_ty hb, p1.here s1 _ rfl⟩
    · exact False.elim p1
  · exact False.elim p1
end
end PD

set_option Elab.async false
set_option linter.all false
set_option maxRecDepth 100000
set_option maxHeartbeats 4000000
namespace PD
open PySem PySem.Spec PyProof.Rows L2
/-! ### statements -/
def nxS : SM := fun ρ h => .fl (.nx ρ) h
def seq (s t : SM) : SM := fun ρ h => match s ρ h with
  | .fl (.nx ρ') h' => t ρ' h'
  | r => r
def retS (f : EM) : SM := fun ρ h => (f ρ h).st ρ fun u h1 => .fl (.rt u) h1
def exprS (f : EM) : SM := fun ρ h => (f ρ h).st ρ fun _ h1 => .fl (.nx ρ) h1
def ifS (b : BM) (s t : SM) : SM := fun ρ h => (b ρ h).st ρ fun k h1 => if k = true then s ρ h1 else t ρ h1
def bkS : SM := fun ρ h => .fl (.bk ρ) h
def ctS : SM := fun ρ h => .fl (.ct ρ) h
def badS : SM := fun _ _ => .bad
section
variable {X : Cx} {W : WX} {a b c : Expr} {st : Stmt} {sts us : List Stmt} {fa fb : EM} {ba : BM} {f g : SM} {pos : Pos}
theorem seq_of {K : PySem.W.Frag} {m : Mm} {H : Hp} {D : Ends} {ρ : Env} {h : IH} (p : PostS K m H (seq f g ρ h) W D) : PostS K m H (f ρ h) W { D with nx := TSi K W g D } := by
  unfold seq at p
  cases q : f ρ h with
  | fl r h1 =>
    rw [q] at p
    cases r with
    | nx ρ1 => exact fun m1 H1 σ1 f1 s1 r1 => ⟨ρ1, m1, h1, r1, s1, p.go f1⟩
    | rt u => exact p
    | bk ρ1 => exact p
    | ct ρ1 => exact p
  | exc C u ρ1 h1 => rw [q] at p; exact p
  | bad => rw [q] at p; exact p
theorem is_cons (h1 : PS X st (TSi X.K W f)) (h2 : PSs X sts (TSi X.K W g)) : PSs X (st :: sts) (TSi X.K W (seq f g)) := by
  refine PSs.imp (pss_cons h1 h2) ?_
  rintro D σ H ⟨ρ, m, h, re, sim, p⟩
  exact ⟨ρ, m, h, re, sim, seq_of p⟩
theorem is_one (h1 : PS X st (TSi X.K W f)) : PSs X [st] (TSi X.K W f) := pss_one h1
theorem is_nil : PSs X [] (TSi X.K W nxS) := by
  refine PSs.imp pss_nil ?_
  rintro D σ H ⟨ρ, m, h, re, sim, p⟩
  exact p m H σ Fr.refl sim re
theorem is_pass : PS X (.Pass pos) (TSi X.K W nxS) := by
  refine PS.imp ps_pass ?_
  rintro D σ H ⟨ρ, m, h, re, sim, p⟩
  exact p m H σ Fr.refl sim re
theorem is_break : PS X (.Break pos) (TSi X.K W bkS) := by
  refine PS.imp ps_break ?_
  rintro D σ H ⟨ρ, m, h, re, sim, p⟩
  exact p m H σ Fr.refl sim re
theorem is_continue : PS X (.Continue pos) (TSi X.K W ctS) := by
  refine PS.imp ps_continue ?_
  rintro D σ H ⟨ρ, m, h, re, sim, p⟩
  exact p m H σ Fr.refl sim re
/-- a statement that is never come to -/
theorem is_never : PS X st (TSi X.K W badS) := PS.imp ps_never fun D σ H ⟨_, _, _, _, _, p⟩ => p
theorem iss_never : PSs X sts (TSi X.K W badS) := PSs.imp pss_never fun D σ H ⟨_, _, _, _, _, p⟩ => p
theorem is_ret (ha : PE X a (TEi X.K W fa)) : PS X (.Return (some a) pos) (TSi X.K W (retS fa)) := by
  refine PS.imp (ps_ret ha) ?_
  rintro D σ H ⟨ρ, m, h, re, sim, p⟩
  exact ⟨ρ, m, h, re, sim, (PostS.st re p).mono (fun u h1 m1 H1 f1 s1 p1 v rv => p1 m1 H1 v Fr.refl s1 rv) fun _ _ _ _ _ _ _ z => z⟩
theorem is_retN : PS X (.Return none pos) (TSi X.K W (retS (cE .non))) := by
  refine PS.imp ps_retN ?_
  rintro D σ H ⟨ρ, m, h, re, sim, p⟩
  exact p m H .non Fr.refl sim rfl
theorem is_expr (ha : PE X a (TEi X.K W fa)) (hs : swapsWith a none pos.line X.env = pure false := by rfl) : PS X (.Expr a pos) (TSi X.K W (exprS fa)) := by
  refine PS.imp (ps_expr ha hs) ?_
  rintro D σ H ⟨ρ, m, h, re, sim, p⟩
  exact ⟨ρ, m, h, re, sim, (PostS.st re p).mono (fun u h1 m1 H1 f1 s1 p1 v rv => p1 m1 H1 σ Fr.refl s1 (re.step f1)) fun _ _ _ _ _ _ _ z => z⟩
theorem is_doc {x j pos pos'} : PS X (.Expr (.Constant (.str x) j pos) pos') (TSi X.K W nxS) := by
  refine PS.imp ps_doc ?_
  rintro D σ H ⟨ρ, m, h, re, sim, p⟩
  exact p m H σ Fr.refl sim re
theorem is_if (hc : PT X c (TTi X.K W ba)) (h1 : PSs X sts (TSi X.K W f)) (h2 : PSs X us (TSi X.K W g)) : PS X (.If c sts us pos) (TSi X.K W (ifS ba f g)) := by
  refine PS.imp (ps_if hc h1 h2) ?_
  rintro D σ H ⟨ρ, m, h, re, sim, p⟩
  refine ⟨ρ, m, h, re, sim, (PostS.st re p).mono (fun k h1 m1 H1 f1 s1 p1 => ?_) fun _ _ _ _ _ _ _ z => z⟩
  cases k with
  | true => exact ⟨ρ, m1, h1, re.step f1, s1, p1⟩
  | false => exact ⟨ρ, m1, h1, re.step f1, s1, p1⟩

/-! ### targets -/
abbrev GM := U → Env → IH → R Env
/-- the slots that are not named stand as they stood -/
structure Agr (sl : List Nat) (σ σ' : L2.St) : Prop where
  len : σ'.length = σ.length
  at_ : ∀ i, i ∉ sl → σ'[i]? = σ[i]?
theorem Agr.refl {sl : List Nat} {σ : L2.St} : Agr sl σ σ := ⟨rfl, fun _ _ => rfl⟩
theorem Agr.trans {sl tl : List Nat} {σ σ1 σ2 : L2.St} (a : Agr sl σ σ1) (b : Agr tl σ1 σ2) : Agr (sl ++ tl) σ σ2 :=
  ⟨b.len.trans a.len, fun i h => (b.at_ i fun z => h (List.mem_append_right _ z)).trans (a.at_ i fun z => h (List.mem_append_left _ z))⟩
/-- nothing is wished of an error -/
abbrev W0 : WX := fun _ _ _ _ => False
def TGi (K : PySem.W.Frag) (W : WX) (sl : List Nat) (g : GM) : TG := fun v σ H Q => ∃ ρ m h u, RE K m H ρ σ ∧ Sim K m h H ∧ RU K m H u v ∧
  Post K m H (g u ρ h) (fun ρ' _ m' H' => ∀ σ', RE K m' H' ρ' σ' → Agr sl σ σ' → Q σ' H') (exW K W σ)
def TGsi (K : PySem.W.Frag) (sl : List Nat) (g : List U → Env → IH → R Env) : TGs := fun vs σ H Q => ∃ ρ m h us, RE K m H ρ σ ∧ Sim K m h H ∧ RUs K m H us vs ∧
  Post K m H (g us ρ h) (fun ρ' _ m' H' => ∀ σ', RE K m' H' ρ' σ' → Agr sl σ σ' → Q σ' H') noW
theorem PG.imp {t t' : TG} (p : PG X a t) (h : ∀ v σ H Q, t' v σ H Q → t v σ H Q) : PG X a t' := ⟨fun pins s σ H v u Q I r q => p.run pins s σ H v u Q I r (h _ _ _ _ q)⟩
theorem PGs.imp {es : List Expr} {t t' : TGs} (p : PGs X es t) (h : ∀ v σ H Q, t' v σ H Q → t v σ H Q) : PGs X es t' := ⟨fun pins s σ H vs us Q I r q => p.run pins s σ H vs us Q I r (h _ _ _ _ q)⟩
def nmG (i : Nat) : GM := fun u ρ h => .ok (ρ.set i (some u)) h
theorem ig_name {i : Nat} {x : Str} (hN : X.N.Nodup) (hi : X.N[i]? = some x) (hx : Loc X.env.scope x) (hf : X.fn x = true ∨ X.env.scope.names.lookup x = some .local := by first | exact .inl rfl | exact .inr rfl | assumption) : PG X (.Name x pos) (TGi X.K W [i] (nmG i)) := by
  refine PG.imp (pg_name hN hi hx hf) ?_
  rintro v σ H Q ⟨ρ, m, h, u, re, sim, r, p⟩
  refine p.here sim _ (re.set i r) ⟨by simp, fun j hj => ?_⟩
  rw [List.getElem?_set_ne]
  intro z
  exact hj (by simp [z])
def nilG : List U → Env → IH → R Env := fun us ρ h => match us with
  | [] => .ok ρ h
  | _ => .bad
def consG (g : GM) (k : List U → Env → IH → R Env) : List U → Env → IH → R Env := fun us ρ h => match us with
  | u :: us => (g u ρ h).bind fun ρ' h' => k us ρ' h'
  | [] => .bad
theorem igs_nil : PGs X [] (TGsi X.K [] nilG) := by
  refine PGs.imp pgs_nil ?_
  rintro vs σ H Q ⟨ρ, m, h, us, re, sim, r, p⟩
  cases us with
  | nil =>
    have r : vs = [] := r
    exact ⟨r, p.here sim σ re Agr.refl⟩
  | cons => exact False.elim p
theorem igs_cons {e : Expr} {es : List Expr} {sl tl : List Nat} {g : GM} {k : List U → Env → IH → R Env} (h1 : PG X e (TGi X.K W0 sl g)) (h2 : PGs X es (TGsi X.K tl k))
    (hs : (assignEach (e :: es) X.env).map (·.2) = assign e X.env :: (assignEach es X.env).map (·.2) := by rfl) : PGs X (e :: es) (TGsi X.K (sl ++ tl) (consG g k)) := by
  refine PGs.imp (pgs_cons h1 h2 hs) ?_
  rintro vs σ H Q ⟨ρ, m, h, us, re, sim, r, p⟩
  cases us with
  | nil => exact False.elim p
  | cons u us =>
    obtain ⟨v, vr, rfl, r1, r2⟩ := r
    have p : Post X.K m H ((g u ρ h).bind fun ρ' h' => k us ρ' h') _ _ := p
    refine ⟨v, vr, rfl, ρ, m, h, u, re, sim, r1, p.bind.mono (fun ρ1 h1 m1 H1 f1 s1 p1 σ1 re1 a1 => ?_) fun _ _ _ _ _ _ _ z => z.elim⟩
    exact ⟨ρ1, m1, h1, us, re1, s1, r2.step f1, p1.mono (fun ρ2 h2 m2 H2 f2 s2 p2 σ2 re2 a2 => p2 σ2 re2 (a1.trans a2)) fun _ _ _ _ _ _ _ z => z⟩
def noX {α : Type} (r : R α) : R α := match r with
  | .ok a h => .ok a h
  | _ => .bad
@[simp] theorem noX_ok {α : Type} (a : α) (h : IH) : noX (.ok a h) = .ok a h := rfl
theorem Post.noX {α : Type} {K : PySem.W.Frag} {m : Mm} {H : Hp} {r : R α} {Q : α → IH → Mm → Hp → Prop} {Wn : Addr → U → IH → Mm → Hp → Prop} (p : Post K m H (PD.noX r) Q Wn) : Post K m H r Q PD.noW := by
  cases r with
  | ok a h1 => exact p
  | exc C u h1 => exact False.elim p
  | bad => exact p
def tupG (n : Nat) (k : List U → Env → IH → R Env) : GM := fun u ρ h => match u with
  | .tup us => if us.length = n then noX (k us ρ h) else .bad
  | _ => .bad
theorem ig_tup {es : List Expr} {kk : Nat} {n : Nat} {sl : List Nat} {k : List U → Env → IH → R Env} (hc : X.calm = true) (hh : PGs X es (TGsi X.K sl k))
    (hn : (assignEach es X.env).length = n := by rfl) (hst : (assignEach es X.env).findIdx? (·.1) = none := by rfl) : PG X (.Tuple es kk pos) (TGi X.K W sl (tupG n k)) := by
  refine PG.imp (pg_tup hc hh hn hst) ?_
  rintro v σ H Q ⟨ρ, m, h, u, re, sim, r, p⟩
  cases u with
  | tup us =>
    obtain ⟨t, ys, rfl, ta, q⟩ := r
    have p : Post X.K m H (if us.length = n then PD.noX (k us ρ h) else .bad) _ _ := p
    split at p
    · rename_i hl
      exact ⟨t, ys, rfl, ta.sq, by rw [← q.length]; exact hl, ρ, m, h, us, re, sim, q, Post.noX p⟩
    · exact False.elim p
  | _ => exact False.elim p
def asgS (f : EM) (g : GM) : SM := fun ρ h => (f ρ h).st ρ fun u h1 => (g u ρ h1).st ρ fun ρ' h2 => .fl (.nx ρ') h2
theorem is_asg {tg : Expr} {g : GM} {sl : List Nat} (ha : PE X a (TEi X.K W fa)) (hg : PG X tg (TGi X.K W sl g)) (hs : swapsWithSole [tg] a pos.line X.env = pure false := by rfl) (hw : swappedStores [tg] a X.env = pure none := by rfl)
    (h1 : (assignEach [tg] X.env).map (·.2) = [assign tg X.env] := by rfl) : PS X (.Assign [tg] a pos) (TSi X.K W (asgS fa g)) := by
  refine PS.imp (ps_asg ha hg hs hw h1) ?_
  rintro D σ H ⟨ρ, m, h, re, sim, p⟩
  refine ⟨ρ, m, h, re, sim, (PostS.st re p).mono (fun u h1 m1 H1 f1 s1 p1 v rv => ?_) fun _ _ _ _ _ _ _ z => z⟩
  refine ⟨ρ, m1, h1, u, re.step f1, s1, rv, ?_⟩
  exact (PostS.st (re.step f1) p1).mono (fun ρ' h2 m2 H2 f2 s2 p2 σ' r2 _ => p2 m2 H2 σ' Fr.refl s2 r2) fun _ _ _ _ _ _ _ z => z
/-- name = e -/
theorem is_set {i : Nat} {x : Str} {px : Pos} (hN : X.N.Nodup) (hi : X.N[i]? = some x) (hx : Loc X.env.scope x) (ha : PE X a (TEi X.K W fa)) (hf : X.fn x = true ∨ X.env.scope.names.lookup x = some .local := by first | exact .inl rfl | exact .inr rfl | assumption)
    (hs : swapsWithSole [.Name x px] a pos.line X.env = pure false := by rfl) (hw : swappedStores [.Name x px] a X.env = pure none := by rfl) (h1 : (assignEach [.Name x px] X.env).map (·.2) = [assign (.Name x px) X.env] := by rfl) :
    PS X (.Assign [.Name x px] a pos) (TSi X.K W (asgS fa (nmG i))) := is_asg ha (ig_name hN hi hx hf) hs hw h1
/-- x, y = a, b: local names -/
def par2 (i j : Nat) (f : AM) : SM := fun ρ h => (f ρ h).st ρ fun us h1 => match us with
  | [u, w] => .fl (.nx ((ρ.set i (some u)).set j (some w))) h1
  | _ => .bad
theorem is_par {i j : Nat} {x y : Str} {fs : AM} {px py pt : Pos} {kt k2 pt2} (hc : X.calm = true) (hN : X.N.Nodup) (hi : X.N[i]? = some x) (hj : X.N[j]? = some y) (hij : i ≠ j)
    (hx : X.env.scope.names.lookup x = some .local) (hy : X.env.scope.names.lookup y = some .local) (ha : PA X [a, b] (TAi X.K W fs))
    (hw : swappedStores [.Tuple [.Name x px, .Name y py] kt pt] (.Tuple [a, b] k2 pt2) X.env = pure (some [x, y]))
    (hs : swapsWithSole [.Tuple [.Name x px, .Name y py] kt pt] (.Tuple [a, b] k2 pt2) pos.line X.env = pure false := by rfl) :
    PS X (.Assign [.Tuple [.Name x px, .Name y py] kt pt] (.Tuple [a, b] k2 pt2) pos) (TSi X.K W (par2 i j fs)) := by
  refine PS.imp (ps_par hc hN hi hj hij hx hy ha hw hs) ?_
  rintro D σ H ⟨ρ, m, h, re, sim, p⟩
  refine ⟨ρ, m, h, re, sim, (PostS.st re p).mono (fun us h1 m1 H1 f1 s1 p1 vs rvs => ?_) fun _ _ _ _ _ _ _ z => z⟩
  split at p1
  · obtain ⟨v, t, rfl, r1, r2⟩ := rvs
    obtain ⟨w, t2, rfl, r2, r3⟩ := r2
    have r3 : t2 = [] := r3
    subst r3
    exact ⟨v, w, rfl, p1 m1 H1 _ Fr.refl s1 (((re.step f1).set i r1).set j r2)⟩
  · exact False.elim p1
def par3 (i j l : Nat) (f : AM) : SM := fun ρ h => (f ρ h).st ρ fun us h1 => match us with
  | [u, w, z] => .fl (.nx (((ρ.set i (some u)).set j (some w)).set l (some z))) h1
  | _ => .bad
theorem is_par3 {i j l : Nat} {x y z : Str} {fs : AM} {px py pz pt : Pos} {kt k2 pt2} (hc : X.calm = true) (hN : X.N.Nodup) (hi : X.N[i]? = some x) (hj : X.N[j]? = some y) (hl : X.N[l]? = some z) (hij : i ≠ j) (hil : i ≠ l) (hjl : j ≠ l)
    (hx : X.env.scope.names.lookup x = some .local) (hy : X.env.scope.names.lookup y = some .local) (hz : X.env.scope.names.lookup z = some .local) (ha : PA X [a, b, c] (TAi X.K W fs))
    (hw : swappedStores [.Tuple [.Name x px, .Name y py, .Name z pz] kt pt] (.Tuple [a, b, c] k2 pt2) X.env = pure (some [x, y, z]))
    (hs : swapsWithSole [.Tuple [.Name x px, .Name y py, .Name z pz] kt pt] (.Tuple [a, b, c] k2 pt2) pos.line X.env = pure false := by rfl) :
    PS X (.Assign [.Tuple [.Name x px, .Name y py, .Name z pz] kt pt] (.Tuple [a, b, c] k2 pt2) pos) (TSi X.K W (par3 i j l fs)) := by
  refine PS.imp (ps_par3 hc hN hi hj hl hij hil hjl hx hy hz ha hw hs) ?_
  rintro D σ H ⟨ρ, m, h, re, sim, p⟩
  refine ⟨ρ, m, h, re, sim, (PostS.st re p).mono (fun us h1 m1 H1 f1 s1 p1 vs rvs => ?_) fun _ _ _ _ _ _ _ z => z⟩
  split at p1
  · obtain ⟨v, t, rfl, r1, r2⟩ := rvs
    obtain ⟨w, t2, rfl, r2, r3⟩ := r2
    obtain ⟨w3, t3, rfl, r3, r4⟩ := r3
    have r4 : t3 = [] := r4
    subst r4
    exact ⟨v, w, w3, rfl, p1 m1 H1 _ Fr.refl s1 ((((re.step f1).set i r1).set j r2).set l r3)⟩
  · exact False.elim p1
/-- o[i] = e of a list -/
def putU (o i u : U) (h : IH) : R Unit := match o, i with
  | .ref n, .int k => match h[n]? with
    | some (.lst xs) => match ixN xs.length k with
      | some j => .ok () (h.set n (.lst (xs.set j u)))
      | none => .bad
    | _ => .bad
  | _, _ => .bad
def subG (f g : EM) (o : U → U → U → IH → R Unit) : GM := fun u ρ h => (f ρ h).bind fun x h1 => (g ρ h1).bind fun y h2 => (o x y u h2).bind fun _ h3 => .ok ρ h3
theorem putU_ok {K : PySem.W.Frag} {m : Mm} {H : Hp} {h : IH} {o i u : U} {ov iv v : V} {Q : Hp → Prop} {Wn : Addr → U → IH → Mm → Hp → Prop} (s : Sim K m h H) (ro : RU K m H o ov) (ri : RU K m H i iv) (ru : RU K m H u v)
    (p : Post K m H (putU o i u h) (fun _ _ _ H' => Q H') Wn) : rSetL ov iv v H Q := by
  unfold putU at p
  split at p
  · obtain ⟨a, rfl, qa⟩ := ro
    have ri : iv = .int _ := ri
    split at p
    · rename_i xs hh
      obtain ⟨ys, e, r⟩ := s.lst hh qa
      split at p
      · rename_i j hj
        refine ⟨a, ys, _, j, rfl, ri, e, by rw [← r.length]; exact hj, ?_⟩
        exact p m _ (Fr.put (List.mem_of_getElem? qa)) (s.put qa ⟨_, rfl, r.set ru j⟩)
      · exact False.elim p
    · exact False.elim p
  · exact False.elim p
theorem ig_subL (ha : PE X a (TEi X.K W fa)) (hb : PE X b (TEi X.K W fb)) (hi : ∀ v, assign (.Subscript a b pos) X.env v = (do
      let ov ← holding [v] (eval a X.env)
      let iv ← holding [v, ov] (eval b X.env)
      standAt pos
      holding [v, ov, iv] (setItem ov iv v)
      release [v, ov, iv] []) := by intro _; rfl) : PG X (.Subscript a b pos) (TGi X.K W [] (subG fa fb putU)) := by
  refine PG.imp (pg_sub ha hb set_list hi) ?_
  rintro v σ H Q ⟨ρ, m, h, u, re, sim, r, p⟩
  refine ⟨ρ, m, h, re, sim, p.bind.mono (fun x h1 m1 H1 f1 s1 p1 xv rx => ?_) fun _ _ _ _ _ _ _ z => z⟩
  refine ⟨ρ, m1, h1, re.step f1, s1, p1.bind.mono (fun y h2 m2 H2 f2 s2 p2 yv ry => ?_) fun _ _ _ _ _ _ _ z => z⟩
  refine putU_ok s2 (rx.step f2) ry (r.step (f1.trans f2)) (p2.bind.mono (fun _ h3 m3 H3 f3 s3 p3 => ?_) fun _ _ _ _ _ _ _ z => z)
  exact p3.here s3 σ (re.step (f1.trans (f2.trans f3))) Agr.refl
end
end PD

set_option Elab.async false
set_option linter.all false
set_option maxRecDepth 100000
set_option maxHeartbeats 4000000
namespace PD
open PySem PySem.Spec PyProof.Rows L2
/-! ### what a loop walks: items; a list that may change is looked at again at each turn -/
structure Src where
  items : List U
  chk : List (Nat × List U) := []
def Src.At (s : Src) (h : IH) : Prop := ∀ p ∈ s.chk, h[p.1]? = some (.lst p.2)
open Classical in
noncomputable def forGo (s : Src) (g : GM) (body : SM) : List U → SM
  | [], ρ, h => if s.At h then .fl (.nx ρ) h else .bad
  | x :: xs, ρ, h => if s.At h then (g x ρ h).st ρ fun ρ1 h1 => match body ρ1 h1 with
    | .fl (.nx ρ2) h2 => forGo s g body xs ρ2 h2
    | .fl (.ct ρ2) h2 => forGo s g body xs ρ2 h2
    | .fl (.bk ρ2) h2 => .fl (.nx ρ2) h2
    | r => r
    else .bad
noncomputable def forS (f : Env → IH → R Src) (g : GM) (body : SM) : SM := fun ρ h => (f ρ h).st ρ fun s h1 => forGo s g body s.items ρ h1
/-- the layer's iterator gives these items -/
structure ItOk (K : PySem.W.Frag) (J : It) (s : Src) (m0 : Mm) (H0 : Hp) : Prop where
  go : ∀ (i : Nat) (m : Mm) (h : IH) (H : Hp), Fw m0 H0 m H → Sim K m h H → s.At h → i < s.items.length → J.go i H
  stop : ∀ (i : Nat) (m : Mm) (h : IH) (H : Hp), Fw m0 H0 m H → Sim K m h H → s.At h → i = s.items.length → J.stop i H
  yld : ∀ (i : Nat) (m : Mm) (h : IH) (H : Hp) (x : V) (H' : Hp), Fw m0 H0 m H → Sim K m h H → s.At h → i < s.items.length → J.yld i H x H' → Fr m H m H' ∧ Sim K m h H' ∧ ∃ u, s.items[i]? = some u ∧ RU K m H' u x
def TIi (K : PySem.W.Frag) (W : WX) (f : Env → IH → R Src) : TI := fun σ H R => ∃ ρ m h, RE K m H ρ σ ∧ Sim K m h H ∧
  Post K m H (f ρ h) (fun s _ m1 H1 => ∀ J, ItOk K J s m1 H1 → R J H1) (exW K W σ)
section
variable {X : Cx} {W : WX} {tg iter : Expr} {pos : Pos} {body : List Stmt} {fi : Env → IH → R Src} {g : GM} {sl : List Nat} {fb : SM}
theorem drop_at {s : Src} {i : Nat} (h : i < s.items.length) : s.items.drop i = s.items[i] :: s.items.drop (i + 1) := List.drop_eq_getElem_cons h
theorem is_for (hp : PassesOwn (model X.prog X.w) X.A X.env X.xe) (hc : X.calm = true) (hi : PI X tg iter (TIi X.K W fi)) (hg : PG X tg (TGi X.K W sl g)) (hb : PSs X body (TSi X.K W fb))
    (hs : ∀ x, foldedSetIterable iter X.env x = pure x := by intro _; rfl) : PS X (.For tg iter body [] pos) (TSi X.K W (forS fi g fb)) := by
  refine PS.imp (ps_for hp hc hi hg hb hs) ?_
  rintro D σ H ⟨ρ, m, h, re, sim, p⟩
  refine ⟨ρ, m, h, re, sim, (PostS.st re p).mono (fun s h1 m1 H1 f1 s1 p1 J ok => ?_) fun _ _ _ _ _ _ _ z => z⟩
  refine ⟨fun i k σ' H' => k = s.items.length - i ∧ i ≤ s.items.length ∧ ∃ ρ' m' h', Fw m1 H1 m' H' ∧ RE X.K m' H' ρ' σ' ∧ Sim X.K m' h' H' ∧ PostS X.K m' H' (forGo s g fb (s.items.drop i) ρ' h') W D,
    ⟨s.items.length, rfl, Nat.zero_le _, ρ, m1, h1, Fw.refl, re.step f1, s1, by rw [List.drop_zero]; exact p1⟩, ?_⟩
  rintro i k σ' H' ⟨rfl, hle, ρ', m', h', fw, re', s', p'⟩
  by_cases hlt : i < s.items.length
  · rw [drop_at hlt] at p'
    unfold forGo at p'
    split at p'
    · rename_i hat
      refine .inr ⟨ok.go i m' h' H' fw s' hat hlt, fun σ2 H2 => i + 1 ≤ s.items.length ∧ ∃ ρ' m' h', Fw m1 H1 m' H2 ∧ RE X.K m' H2 ρ' σ2 ∧ Sim X.K m' h' H2 ∧ PostS X.K m' H2 (forGo s g fb (s.items.drop (i + 1)) ρ' h') W D,
        fun σ2 H2 w => ⟨s.items.length - (i + 1), by omega, rfl, w⟩, fun x H2 y => ?_⟩
      obtain ⟨f2, s2, u, hu, ru⟩ := ok.yld i m' h' H' x H2 fw s' hat hlt y
      have eu : u = s.items[i] := by rw [List.getElem?_eq_getElem hlt] at hu; exact (Option.some.inj hu).symm
      subst eu
      refine ⟨ρ', m', h', _, re'.step f2, s2, ru, ((PostS.st re' p').go f2).mono (fun ρ1 h3 m3 H3 f3 s3 p3 σ3 re3 _ => ?_) fun _ _ _ _ _ _ _ z => z⟩
      refine ⟨ρ1, m3, h3, re3, s3, ?_⟩
      cases q : fb ρ1 h3 with
      | fl r h4 =>
        cases r with
        | nx ρ2 =>
          rw [q] at p3
          exact fun m4 H4 σ4 f4 s4 r4 => ⟨hlt, ρ2, m4, h4, fw.trans (f2.w.trans (f3.w.trans f4.w)), r4, s4, p3.go f4⟩
        | ct ρ2 =>
          rw [q] at p3
          exact fun m4 H4 σ4 f4 s4 r4 => ⟨hlt, ρ2, m4, h4, fw.trans (f2.w.trans (f3.w.trans f4.w)), r4, s4, p3.go f4⟩
        | rt u => rw [q] at p3; exact p3
        | bk ρ2 => rw [q] at p3; exact p3
      | exc C u ρ2 h4 => rw [q] at p3; exact p3
      | bad => rw [q] at p3; exact p3
    · exact False.elim p'
  · have e : i = s.items.length := by omega
    subst e
    rw [List.drop_length] at p'
    unfold forGo at p'
    split at p'
    · rename_i hat
      exact .inl ⟨ok.stop _ m' h' H' fw s' hat rfl, p' m' H' σ' Fr.refl s' re'⟩
    · exact False.elim p'

/-! ### sources -/
/-- range(n), range(a, b) -/
def rngS (lo : Int) (n : Nat) : Src := { items := (List.range n).map fun (i : Nat) => .int (lo + (i : Int)) }
theorem rng_ok {K : PySem.W.Frag} {lo : Int} {n : Nat} {m0 : Mm} {H0 : Hp} : ItOk K (Itr lo n) (rngS lo n) m0 H0 where
  go := fun i m h H _ _ _ hi => show i < n by simpa [rngS] using hi
  stop := fun i m h H _ _ _ hi => show n ≤ i by
    have e : i = n := by simpa [rngS] using hi
    omega
  yld := fun i m h H x H' _ s _ hi y => by
    obtain ⟨rfl, rfl⟩ := y
    have hi : i < n := by simpa [rngS] using hi
    exact ⟨Fr.refl, s, .int (lo + i), by simp [rngS, hi], rfl⟩
def rng1 (f : AM) : Env → IH → R Src := fun ρ h => (f ρ h).bind fun us h1 => match us with
  | [.int j] => if -(2 ^ 62) ≤ j ∧ j < 2 ^ 62 then .ok (rngS 0 j.toNat) h1 else .bad
  | _ => .bad
def rng2 (f : AM) : Env → IH → R Src := fun ρ h => (f ρ h).bind fun us h1 => match us with
  | [.int i, .int j] => if -(2 ^ 62) ≤ i ∧ i < 2 ^ 62 ∧ -(2 ^ 62) ≤ j ∧ j < 2 ^ 62 then .ok (rngS i (j - i).toNat) h1 else .bad
  | _ => .bad
theorem ii_range1 {a : Expr} {fs : AM} {p : Pos} (hg : Gl X "range") (hm : X.mg "range" = none) (ha : PA X [a] (TAi X.K W fs)) (hs : starEach [a] X.env = [(false, eval a X.env)] := by rfl) : PI X tg (.Call (.Name "range" p) [a] [] pos) (TIi X.K W (rng1 fs)) := by
  refine ⟨fun pins s σ H R I q => (pi_range1 hg hm ha hs).run pins s σ H R I ?_⟩
  obtain ⟨ρ, m, h, re, sim, p⟩ := q
  refine ⟨ρ, m, h, re, sim, p.bind.mono (fun us h1 m1 H1 f1 s1 p1 vs rvs => ?_) fun _ _ _ _ _ _ _ z => z⟩
  split at p1
  · obtain ⟨v, t, rfl, r1, r2⟩ := rvs
    have r1 : v = .int _ := r1
    have r2 : t = [] := r2
    subst r1 r2
    split at p1
    · rename_i hz
      exact ⟨_, rfl, hz.1, hz.2, p1.here s1 _ rng_ok⟩
    · exact False.elim p1
  · exact False.elim p1
theorem ii_range2 {a b : Expr} {fs : AM} {p : Pos} (hg : Gl X "range") (hm : X.mg "range" = none) (ha : PA X [a, b] (TAi X.K W fs)) (hs : starEach [a, b] X.env = [(false, eval a X.env), (false, eval b X.env)] := by rfl) (hs2 : starEach [b] X.env = [(false, eval b X.env)] := by rfl) :
    PI X tg (.Call (.Name "range" p) [a, b] [] pos) (TIi X.K W (rng2 fs)) := by
  refine ⟨fun pins s σ H R I q => (pi_range2 hg hm ha hs hs2).run pins s σ H R I ?_⟩
  obtain ⟨ρ, m, h, re, sim, p⟩ := q
  refine ⟨ρ, m, h, re, sim, p.bind.mono (fun us h1 m1 H1 f1 s1 p1 vs rvs => ?_) fun _ _ _ _ _ _ _ z => z⟩
  split at p1
  · obtain ⟨v, t, rfl, r1, r2⟩ := rvs
    obtain ⟨w, t2, rfl, r3, r2⟩ := r2
    have r1 : v = .int _ := r1
    have r3 : w = .int _ := r3
    have r2 : t2 = [] := r2
    subst r1 r2 r3
    split at p1
    · rename_i hz
      exact ⟨_, _, rfl, hz, p1.here s1 _ rng_ok⟩
    · exact False.elim p1
  · exact False.elim p1
/-- a value that is walked: a list, a tuple, a text -/
def srcU (h : IH) (u : U) : Option Src := match u with
  | .tup xs => some { items := xs }
  | .lst xs => some { items := xs }
  | .scr xs => some { items := xs }
  | .str z => some { items := z.cps.toList.map fun c => .str ⟨#[c]⟩ }
  | .ref n => match h[n]? with
    | some (.lst xs) => some { items := xs, chk := [(n, xs)] }
    | _ => none
  | _ => none
def isT : U → Bool
  | .tup _ => true
  | _ => false
theorem tup_it {K : PySem.W.Frag} {m0 : Mm} {H0 : Hp} {a : Addr} {xs : List U} {ys : List V} (t : TupA K m0 H0 a ys) (r : RUs K m0 H0 xs ys) : ItOk K (Itt K a) { items := xs } m0 H0 where
  go := fun i m h H f _ _ hi => by
    obtain ⟨y, e, _⟩ := r.get (List.getElem?_eq_getElem hi)
    exact ⟨ys, y, (f.tup t).sq, e⟩
  stop := fun i m h H f _ _ hi => ⟨ys, (f.tup t).sq, by rw [← r.length]; exact Nat.le_of_eq hi.symm⟩
  yld := fun i m h H x H' f s _ hi y => by
    obtain ⟨rfl, hy⟩ := y
    obtain ⟨z, e, rz⟩ := r.get (List.getElem?_eq_getElem hi)
    have := hy ys (f.tup t).sq
    rw [e] at this
    cases this
    exact ⟨Fr.refl, s, _, List.getElem?_eq_getElem hi, rz.stepw f⟩
theorem lst_it {K : PySem.W.Frag} {m0 : Mm} {H0 : Hp} {a : Addr} {xs : List U} {ys : List V} (sq : ∀ m H, Fw m0 H0 m H → SqL K H a ys) (r : RUs K m0 H0 xs ys) : ItOk K (Itl K a) { items := xs } m0 H0 where
  go := fun i m h H f _ _ hi => by
    obtain ⟨y, e, _⟩ := r.get (List.getElem?_eq_getElem hi)
    exact ⟨ys, y, sq m H f, e⟩
  stop := fun i m h H f _ _ hi => ⟨ys, sq m H f, by rw [← r.length]; exact Nat.le_of_eq hi.symm⟩
  yld := fun i m h H x H' f s _ hi y => by
    obtain ⟨rfl, hy⟩ := y
    obtain ⟨z, e, rz⟩ := r.get (List.getElem?_eq_getElem hi)
    have := hy ys (sq m H' f)
    rw [e] at this
    cases this
    exact ⟨Fr.refl, s, _, List.getElem?_eq_getElem hi, rz.stepw f⟩
theorem ref_it {K : PySem.W.Frag} {m0 : Mm} {H0 : Hp} {a : Addr} {n : Nat} {xs : List U} (e : m0.o[n]? = some a) : ItOk K (Itl K a) { items := xs, chk := [(n, xs)] } m0 H0 where
  go := fun i m h H f s hat hi => by
    obtain ⟨ys, e2, r⟩ := s.lst (hat (n, xs) (by simp)) (f.get e)
    obtain ⟨y, e, _⟩ := r.get (List.getElem?_eq_getElem hi)
    exact ⟨ys, y, SqL.of e2, e⟩
  stop := fun i m h H f s hat hi => by
    obtain ⟨ys, e2, r⟩ := s.lst (hat (n, xs) (by simp)) (f.get e)
    exact ⟨ys, SqL.of e2, by rw [← r.length]; exact Nat.le_of_eq hi.symm⟩
  yld := fun i m h H x H' f s hat hi y => by
    obtain ⟨rfl, hy⟩ := y
    obtain ⟨ys, e2, r⟩ := s.lst (hat (n, xs) (by simp)) (f.get e)
    obtain ⟨z, e, rz⟩ := r.get (List.getElem?_eq_getElem hi)
    have := hy ys (SqL.of e2)
    rw [e] at this
    cases this
    exact ⟨Fr.refl, s, _, List.getElem?_eq_getElem hi, rz⟩
theorem str_it {K : PySem.W.Frag} {m0 : Mm} {H0 : Hp} {z : Str} : ItOk K (Its z) { items := z.cps.toList.map fun c => .str ⟨#[c]⟩ } m0 H0 where
  go := fun i m h H _ _ _ hi => show i < z.cps.size by simpa using hi
  stop := fun i m h H _ _ _ hi => show z.cps.size ≤ i by
    have e : i = z.cps.size := by simpa using hi
    omega
  yld := fun i m h H x H' f s _ hi y => by
    obtain ⟨rfl, c, hc, rfl⟩ := y
    exact ⟨Fr.refl, s, .str ⟨#[c]⟩, by simp [hc], rfl⟩
/-- list, tuple or text: by the kind that is told -/
def walkU (T : U → Bool) (f : EM) : Env → IH → R Src := fun ρ h => (f ρ h).bind fun u h1 => if T u = true then (match srcU h1 u with
  | some s => .ok s h1
  | none => .bad) else .bad
def isS : U → Bool
  | .str _ => true
  | _ => false
def isL : U → Bool
  | .lst _ => true
  | .scr _ => true
  | .ref _ => true
  | _ => false
theorem ii_tup {fa : EM} (ha : PE X iter (TEi X.K W fa)) : PI X tg iter (TIi X.K W (walkU isT fa)) := by
  refine ⟨fun pins s σ H R I q => (pi_tup ha).run pins s σ H R I ?_⟩
  obtain ⟨ρ, m, h, re, sim, p⟩ := q
  refine ⟨ρ, m, h, re, sim, p.bind.mono (fun u h1 m1 H1 f1 s1 p1 v rv => ?_) fun _ _ _ _ _ _ _ z => z⟩
  split at p1
  · rename_i hu
    cases u with
    | tup xs =>
      obtain ⟨a, ys, rfl, t, q⟩ := rv
      exact ⟨a, rfl, ⟨ys, t.sq⟩, p1.here s1 _ (tup_it t q)⟩
    | _ => cases hu
  · exact False.elim p1
theorem ii_lst {fa : EM} (ha : PE X iter (TEi X.K W fa)) : PI X tg iter (TIi X.K W (walkU isL fa)) := by
  refine ⟨fun pins s σ H R I q => (pi_list ha).run pins s σ H R I ?_⟩
  obtain ⟨ρ, m, h, re, sim, p⟩ := q
  refine ⟨ρ, m, h, re, sim, p.bind.mono (fun u h1 m1 H1 f1 s1 p1 v rv => ?_) fun _ _ _ _ _ _ _ z => z⟩
  split at p1
  · rename_i hu
    cases u with
    | lst xs =>
      obtain ⟨a, ys, rfl, t, q⟩ := rv
      exact ⟨a, rfl, ⟨ys, SqL.of t.h⟩, p1.here s1 _ (lst_it (fun m H f => SqL.of (f.at_ t).h) q)⟩
    | scr xs =>
      obtain ⟨a, ys, rfl, t, q⟩ := rv
      exact ⟨a, rfl, ⟨ys, t.sq⟩, p1.here s1 _ (lst_it (fun m H f => (f.scr t).sq) q)⟩
    | ref n =>
      obtain ⟨a, rfl, q⟩ := rv
      have p1 : Post X.K m1 H1 (match (match h1[n]? with
        | some (.lst xs) => some { items := xs, chk := [(n, xs)] }
        | _ => none : Option Src) with
        | some s => .ok s h1
        | none => .bad) _ _ := p1
      split at p1
      · rename_i src hsrc
        split at hsrc
        · rename_i xs hh
          cases hsrc
          obtain ⟨ys, e2, r2⟩ := s1.lst hh q
          exact ⟨a, rfl, ⟨ys, SqL.of e2⟩, p1.here s1 _ (ref_it q)⟩
        · cases hsrc
      · exact False.elim p1
    | _ => cases hu
  · exact False.elim p1
theorem ii_str {fa : EM} (ha : PE X iter (TEi X.K W fa)) : PI X tg iter (TIi X.K W (walkU isS fa)) := by
  refine ⟨fun pins s σ H R I q => (pi_str ha).run pins s σ H R I ?_⟩
  obtain ⟨ρ, m, h, re, sim, p⟩ := q
  refine ⟨ρ, m, h, re, sim, p.bind.mono (fun u h1 m1 H1 f1 s1 p1 v rv => ?_) fun _ _ _ _ _ _ _ z => z⟩
  split at p1
  · rename_i hu
    cases u with
    | str z =>
      have rv : v = .str z := rv
      exact ⟨z, rv, p1.here s1 _ str_it⟩
    | _ => cases hu
  · exact False.elim p1
end
end PD

set_option Elab.async false
set_option linter.all false
set_option maxRecDepth 100000
set_option maxHeartbeats 4000000
namespace PD
open PySem PySem.Spec PyProof.Rows L2
/-! ### comprehensions -/
def wipeE (ρ : Env) : List Nat → Env
  | [] => ρ
  | v :: vs => (wipeE ρ vs).set v none
open Classical in
noncomputable def compGo (s : Src) (g : GM) (t : BM) (e : EM) (ρ0 : Env) : List U → IH → List U → R (List U)
  | [], h, acc => if s.At h then .ok acc h else .bad
  | x :: xs, h, acc => if s.At h then (noX (g x ρ0 h)).bind fun ρ1 h1 => (noX (t ρ1 h1)).bind fun b h2 =>
      if b = true then (noX (e ρ1 h2)).bind fun y h3 => if acc.length < sizeLine then compGo s g t e ρ0 xs h3 (acc ++ [y]) else .bad else compGo s g t e ρ0 xs h2 acc
    else .bad
noncomputable def compE (md : Bool) (own : List Nat) (f : Env → IH → R Src) (g : GM) (t : BM) (e : EM) : EM := fun ρ h => (f ρ h).bind fun s h1 => (compGo s g t e (wipeE ρ own) s.items h1 []).bind fun ys h2 => putL md ys h2
section
variable {K : PySem.W.Frag} {m m' : Mm} {H H' : Hp} {h h' : IH}
theorem RE.wipe {ρ : Env} {σ : L2.St} (r : RE K m H ρ σ) : ∀ vs : List Nat, RE K m H (wipeE ρ vs) (wipe σ vs)
  | [] => r
  | v :: vs => (RE.wipe r vs).unset v
theorem wipe_get (σ : L2.St) (i : Nat) : ∀ vs : List Nat, (wipe σ vs)[i]? = if i ∈ vs ∧ i < σ.length then some none else σ[i]?
  | [] => by simp [wipe]
  | v :: vs => by
    show ((wipe σ vs).set v none)[i]? = _
    by_cases e : v = i
    · subst e
      by_cases hl : v < σ.length
      · rw [List.getElem?_set_self (by rw [wipe_length]; exact hl), if_pos ⟨by simp, hl⟩]
      · rw [List.getElem?_eq_none (by simp [wipe_length]; omega), if_neg (fun z => hl z.2), List.getElem?_eq_none (by omega)]
    · rw [List.getElem?_set_ne e, wipe_get σ i vs]
      simp [List.mem_cons, Ne.symm e]
theorem Agr.wipe {sl : List Nat} {σ σ' : L2.St} (a : Agr sl σ σ') (vs : List Nat) (hs : ∀ i ∈ sl, i ∈ vs) : L2.wipe σ' vs = L2.wipe σ vs := by
  apply List.ext_getElem?
  intro i
  rw [wipe_get, wipe_get, a.len]
  by_cases hi : i ∈ vs ∧ i < σ.length
  · rw [if_pos hi, if_pos hi]
  · rw [if_neg hi, if_neg hi]
    by_cases hm : i ∈ sl
    · have hl : ¬ i < σ.length := fun z => hi ⟨hs i hm, z⟩
      rw [List.getElem?_eq_none (by rw [a.len]; omega), List.getElem?_eq_none (by omega)]
    · exact a.at_ i hm
theorem wipe_idem (σ : L2.St) (vs : List Nat) : L2.wipe (L2.wipe σ vs) vs = L2.wipe σ vs := by
  apply List.ext_getElem?
  intro i
  rw [wipe_get, wipe_get, wipe_length]
  by_cases hi : i ∈ vs ∧ i < σ.length
  · rw [if_pos hi, if_pos hi]
  · rw [if_neg hi, if_neg hi]
/-- a place kept for the list that is built -/
theorem Fw.hold {D : Addr} {o : HO} (hD : H D = none) : Fw m H (m.hold D) (upd H D o) :=
  ⟨⟨[], by simp [Mm.hold], by simp⟩, fun a ha => by
    rcases List.mem_cons.mp ha with rfl | ha
    · exact .inr hD
    · exact .inl ha, fun a u e _ _ => by rw [upd_ne (ne_of_none e hD)]; exact e, fun a e => by
    by_cases q : a = D
    · subst q; rw [upd_same]; simp
    · rw [upd_ne q]; exact e⟩
theorem Sim.hold {D : Addr} {o : HO} (s : Sim K m h H) (hD : H D = none) : Sim K (m.hold D) h (upd H D o) := by
  have f : Fw m H (m.hold D) (upd H D o) := Fw.hold hD
  refine ⟨s.nd, s.len, fun n a u e1 e2 => ?_, fun a ha => ?_⟩
  · obtain ⟨ho, e, c⟩ := s.obj n a u e1 e2
    exact ⟨ho, by rw [upd_ne (ne_of_none e hD)]; exact e, c.stepw f⟩
  · rcases List.mem_cons.mp ha with rfl | ha
    · rw [upd_same]; simp
    · exact f.live a (s.rx a ha)
/-- what stands at a kept place is changed -/
theorem Fw.held {D : Addr} {o : HO} (hD : D ∈ m.x) : Fw m H m (upd H D o) :=
  ⟨⟨[], by simp, by simp⟩, fun a ha => .inl ha, fun a u e _ nx => by rw [upd_ne (show a ≠ D from fun z => nx (by rw [z]; exact hD))]; exact e, fun a e => by
    by_cases q : a = D
    · subst q; rw [upd_same]; simp
    · rw [upd_ne q]; exact e⟩
end
section
variable {X : Cx} {W : WX} {tg iter elt c : Expr} {ifs : List Expr} {scope : Scope} {own : List (Str × Nat)} {pos : Pos} {fi : Env → IH → R Src} {g : GM} {sl : List Nat} {t : BM} {e : EM}
theorem PTs.imp {t t' : TT} (p : PTs X ifs t) (h : ∀ σ H Q, t' σ H Q → t σ H Q) : PTs X ifs t' := ⟨fun pins s σ H Q I q => p.run pins s σ H Q I (h _ _ _ q)⟩
def yesB : BM := fun _ h => .ok true h
theorem its_nil : PTs X [] (TTi X.K W yesB) := by
  refine PTs.imp pts_nil ?_
  rintro σ H Q ⟨ρ, m, h, re, sim, p⟩
  exact p.here sim
theorem its_one (h : PT X c (TTi X.K W t)) : PTs X [c] (TTi X.K W t) := pts_one h
theorem tLc_of (md : Bool) (hsl : ∀ i ∈ sl, i ∈ own.map (·.2)) : ∀ σ H Q, TEi X.K W (compE md (own.map (·.2)) fi g t e) σ H Q → tLc (TIi X.K W fi) (TGi X.K W0 sl g) (TTi X.K W0 t) (TEi X.K W0 e) (own.map (·.2)) σ H Q := by
  rintro σ H Q ⟨ρ, m, h, re, sim, p⟩
  refine ⟨ρ, m, h, re, sim, p.bind.mono (fun s h1 m1 H1 f1 s1 p1 J ok D hD => ?_) fun _ _ _ _ _ _ _ z => z⟩
  generalize hown : own.map (·.2) = ow at hsl p1 ⊢
  have f0 : Fw m1 H1 (m1.hold D) (upd H1 D (.lst [])) := Fw.hold hD
  have hDo : D ∉ m1.o := s1.fresh hD
  refine ⟨fun i k H' => k = s.items.length - i ∧ i ≤ s.items.length ∧ ∃ m h acc ys, m.x = D :: m1.x ∧ Fw (m1.hold D) (upd H1 D (.lst [])) m H' ∧ Sim X.K m h H' ∧ H' D = some (.lst ys) ∧ D ∉ m.o ∧ RUs X.K m H' acc ys ∧
      (∀ a o, H1 a = some o → a ∉ m1.o → H' a = some o) ∧ Post X.K m1 H1 ((compGo s g t e (wipeE ρ ow) (s.items.drop i) h acc).bind fun ys h2 => putL md ys h2) (QU X.K Q) (exW X.K W σ),
    ⟨s.items.length, rfl, Nat.zero_le _, m1.hold D, h1, [], [], rfl, Fw.refl, s1.hold hD, upd_same, hDo, RUs.nil, fun a o e _ => by rw [upd_ne (ne_of_none e hD)]; exact e, by rw [List.drop_zero]; exact p1⟩, ?_⟩
  rintro i k H2 ⟨rfl, hle, m2, h2, acc, ys, hx, fw, s2, hDl, hDn, rac, kp, p2⟩
  have fw1 : Fw m1 H1 m2 H2 := f0.trans fw
  have rew : RE X.K m2 H2 (wipeE ρ ow) (wipe σ ow) := ((re.step f1).stepw fw1).wipe ow
  by_cases hlt : i < s.items.length
  · rw [drop_at hlt] at p2
    unfold compGo at p2
    split at p2
    · rename_i hat
      refine .inr ⟨ok.go i m2 h2 H2 fw1 s2 hat hlt, fun H' => i + 1 ≤ s.items.length ∧ ∃ m h acc ys, m.x = D :: m1.x ∧ Fw (m1.hold D) (upd H1 D (.lst [])) m H' ∧ Sim X.K m h H' ∧ H' D = some (.lst ys) ∧ D ∉ m.o ∧ RUs X.K m H' acc ys ∧
          (∀ a o, H1 a = some o → a ∉ m1.o → H' a = some o) ∧ Post X.K m1 H1 ((compGo s g t e (wipeE ρ ow) (s.items.drop (i + 1)) h acc).bind fun ys h2 => putL md ys h2) (QU X.K Q) (exW X.K W σ),
        fun H' w => ⟨s.items.length - (i + 1), by omega, rfl, w⟩, fun x H3 y => ?_⟩
      obtain ⟨f3, s3, u, hu, ru⟩ := ok.yld i m2 h2 H2 x H3 fw1 s2 hat hlt y
      have eu : u = s.items[i] := by rw [List.getElem?_eq_getElem hlt] at hu; exact (Option.some.inj hu).symm
      subst eu
      refine ⟨wipeE ρ ow, m2, h2, _, rew.step f3, s3, ru, ?_⟩
      cases q1 : g s.items[i] (wipeE ρ ow) h2 with
      | exc C u' h3 => rw [q1] at p2; exact False.elim p2
      | bad => rw [q1] at p2; exact False.elim p2
      | ok ρ1 h3 =>
        rw [q1] at p2
        simp only [noX_ok, R.bind_ok] at p2
        intro m4 H4 f4 s4 σ4 re4 a4
        refine ⟨(a4.wipe ow hsl).trans (wipe_idem σ ow), ρ1, m4, h3, re4, s4, ?_⟩
        cases q2 : t ρ1 h3 with
        | exc C u' h4 => rw [q2] at p2; exact False.elim p2
        | bad => rw [q2] at p2; exact False.elim p2
        | ok b h4 =>
          rw [q2] at p2
          simp only [noX_ok, R.bind_ok] at p2
          intro m5 H5 f5 s5
          have f35 : Fr m2 H2 m5 H5 := f3.trans (f4.trans f5)
          have kp5 : ∀ a o, H1 a = some o → a ∉ m1.o → H5 a = some o := fun a o e n => f35.keep a o (kp a o e n) (fw1.out (by rw [e]; simp) n)
          cases b with
          | false =>
            rw [if_neg Bool.false_ne_true] at p2
            show ite (false = true) _ _
            rw [if_neg Bool.false_ne_true]
            exact ⟨hlt, m5, h4, acc, ys, f35.px.trans hx, fw.trans f35.w, s5, f35.keep _ _ hDl hDn, f35.out (by rw [hDl]; simp) hDn, rac.step f35, kp5, p2⟩
          | true =>
            rw [if_pos rfl] at p2
            show ite (true = true) _ _
            rw [if_pos rfl]
            refine ⟨ρ1, m5, h4, re4.step f5, s5, ?_⟩
            cases q3 : e ρ1 h4 with
            | exc C u' h5 => rw [q3] at p2; exact False.elim p2
            | bad => rw [q3] at p2; exact False.elim p2
            | ok z h5 =>
              rw [q3] at p2
              simp only [noX_ok, R.bind_ok] at p2
              intro m6 H6 f6 s6 zv rz
              split at p2
              · rename_i hz
                have f36 : Fr m2 H2 m6 H6 := f35.trans f6
                have hD6 : H6 D = some (.lst ys) := f36.keep _ _ hDl hDn
                have hn6 : D ∉ m6.o := f36.out (by rw [hDl]; simp) hDn
                have hx6 : m6.x = D :: m1.x := f36.px.trans hx
                have fh : Fw m6 H6 m6 (upd H6 D (.lst (ys ++ [zv]))) := Fw.held (by rw [hx6]; simp)
                refine ⟨ys, hD6, by rw [← rac.length]; exact hz, hlt, m6, h5, acc ++ [z], ys ++ [zv], hx6, fw.trans (f36.w.trans fh), s6.gow fh fun a ha => upd_ne (show a ≠ D from fun w => hn6 (w ▸ ha)), upd_same, hn6,
                  ((rac.step f36).append (RUs.cons rz RUs.nil)).stepw fh, fun a o e n => ?_, p2⟩
                rw [upd_ne (ne_of_none e hD)]
                exact f6.keep a o (kp5 a o e n) ((fw1.trans f35.w).out (by rw [e]; simp) n)
              · exact False.elim p2
    · exact False.elim p2
  · have ei : i = s.items.length := by omega
    subst ei
    rw [List.drop_length] at p2
    unfold compGo at p2
    split at p2
    · rename_i hat
      refine .inl ⟨ok.stop _ m2 h2 H2 fw1 s2 hat rfl, ?_⟩
      rw [R.bind_ok] at p2
      have hDx : D ∉ m1.x := fun z => s1.rx D z hD
      obtain ⟨e2, pe2, he2⟩ := fw1.pre
      have lv : ∀ a, H1 a ≠ none → H2 a ≠ none := fw1.live
      have outz : ∀ {a o}, At m2 H2 a o → a ≠ D := fun q z => q.nx (by rw [hx, z]; simp)
      cases md with
      | false =>
        have f : Fr m1 H1 ⟨m2.o, m1.x⟩ H2 := ⟨⟨e2, pe2, he2⟩, rfl, kp, lv⟩
        have fz : Fz m2 H2 ⟨m2.o, m1.x⟩ H2 := ⟨fun q => ⟨q.h, q.no, fun z => q.nx (by rw [hx]; exact List.mem_cons_of_mem _ z)⟩, fun q => q⟩
        have s' : Sim X.K ⟨m2.o, m1.x⟩ h2 H2 := ⟨s2.nd, s2.len, fun n a o e1 e2 => by
          obtain ⟨ho, e3, c⟩ := s2.obj n a o e1 e2
          exact ⟨ho, e3, c.stepz fz⟩, fun a z => lv a (s1.rx a z)⟩
        exact p2 ⟨m2.o, m1.x⟩ H2 f s' _ ⟨D, ys, rfl, ⟨hDl, hDn, hDx⟩, rac.stepz fz⟩
      | true =>
        have f : Fr m1 H1 ⟨m2.o ++ [D], m1.x⟩ H2 := ⟨⟨e2 ++ [D], by show m2.o ++ [D] = _; rw [pe2, List.append_assoc], fun a ha => by
          rcases List.mem_append.mp ha with ha | ha
          · exact he2 a ha
          · have : a = D := by simpa using ha
            rw [this]; exact hD⟩, rfl, kp, lv⟩
        have fz : Fz m2 H2 ⟨m2.o ++ [D], m1.x⟩ H2 := ⟨fun q => ⟨q.h, fun z => by
          rcases List.mem_append.mp z with z | z
          · exact q.no z
          · exact outz q (by simpa using z), fun z => q.nx (by rw [hx]; exact List.mem_cons_of_mem _ z)⟩, fun q => by
          show (m2.o ++ [D])[_]? = _
          rw [List.getElem?_append_left (List.getElem?_eq_some_iff.mp q).1]
          exact q⟩
        have s' : Sim X.K ⟨m2.o ++ [D], m1.x⟩ (h2 ++ [.lst acc]) H2 := by
          refine ⟨List.nodup_append.mpr ⟨s2.nd, by simp, fun a ha b hb z => ?_⟩, by simp [s2.len], fun n a o e1 e2 => ?_, fun a z => lv a (s1.rx a z)⟩
          · have : b = D := by simpa using hb
            exact hDn (this ▸ z ▸ ha)
          · by_cases hn : n < m2.o.length
            · have e1 : (m2.o ++ [D])[n]? = some a := e1
              rw [List.getElem?_append_left hn] at e1
              rw [List.getElem?_append_left (by rw [← s2.len]; exact hn)] at e2
              obtain ⟨ho, e3, c⟩ := s2.obj n a o e1 e2
              exact ⟨ho, e3, c.stepz fz⟩
            · have e1 : (m2.o ++ [D])[n]? = some a := e1
              have hn' : n = m2.o.length := by
                have := (List.getElem?_eq_some_iff.mp e1).1
                simp at this; omega
              subst hn'
              rw [List.getElem?_append_right (Nat.le_refl _)] at e1
              rw [s2.len, List.getElem?_append_right (Nat.le_refl _)] at e2
              simp at e1 e2
              subst e1 e2
              exact ⟨_, hDl, ys, rfl, rac.stepz fz⟩
        refine p2 ⟨m2.o ++ [D], m1.x⟩ H2 f s' _ ⟨D, rfl, ?_⟩
        show (m2.o ++ [D])[h2.length]? = some D
        rw [← s2.len, List.getElem?_append_right (Nat.le_refl _)]
        simp
    · exact False.elim p2
theorem ie_comp (md : Bool) (hc : X.calm = true) (hN : X.N.Nodup) (hi : PI X tg iter (TIi X.K W fi)) (ok : BlkOk X.N X.env.scope scope own) (hsl : ∀ i ∈ sl, i ∈ own.map (·.2))
    (hg : ∀ (s : Shared) (H : Hp) (C : Addr) (cl : List (Str × Addr)) (fp : List Addr), PG (X.blk s H scope (compEnvC scope cl C X.env) fp) tg (TGi X.K W0 sl g))
    (ht : ∀ (s : Shared) (H : Hp) (C : Addr) (cl : List (Str × Addr)) (fp : List Addr), PTs (X.blk s H scope (compEnvC scope cl C X.env) fp) ifs (TTi X.K W0 t))
    (he : ∀ (s : Shared) (H : Hp) (C : Addr) (cl : List (Str × Addr)) (fp : List Addr), PE (X.blk s H scope (compEnvC scope cl C X.env) fp) elt (TEi X.K W0 e))
    (hs : ∀ x, foldedSetIterable iter X.env x = pure x := by intro _; rfl) :
    PE X (.ListComp elt [⟨tg, iter, ifs, 0⟩] scope pos) (TEi X.K W (compE md (own.map (·.2)) fi g t e)) := PE.imp (pe_lc hc hN hi ok hg ht he hs) (tLc_of md hsl)
/-- name = [..] on one line -/
theorem is_setComp (md : Bool) {i : Nat} {y : Str} {py spos : Pos} (hc : X.calm = true) (hN : X.N.Nodup) (hy : X.N[i]? = some y) (hyl : X.env.scope.names.lookup y = some .local)
    (hsw : swapsWith (.ListComp elt [⟨tg, iter, ifs, 0⟩] scope pos) (some (.Name y py)) spos.line X.env = pure true) (hi : PI X tg iter (TIi X.K W fi)) (ok : BlkOk X.N X.env.scope scope own) (hsl : ∀ i ∈ sl, i ∈ own.map (·.2))
    (hg : ∀ (s : Shared) (H : Hp) (C : Addr) (cl : List (Str × Addr)) (fp : List Addr), PG (X.blk s H scope (compEnvC scope cl C X.env) fp) tg (TGi X.K W0 sl g))
    (ht : ∀ (s : Shared) (H : Hp) (C : Addr) (cl : List (Str × Addr)) (fp : List Addr), PTs (X.blk s H scope (compEnvC scope cl C X.env) fp) ifs (TTi X.K W0 t))
    (he : ∀ (s : Shared) (H : Hp) (C : Addr) (cl : List (Str × Addr)) (fp : List Addr), PE (X.blk s H scope (compEnvC scope cl C X.env) fp) elt (TEi X.K W0 e))
    (hs : ∀ x, foldedSetIterable iter X.env x = pure x := by intro _; rfl) :
    PS X (.Assign [.Name y py] (.ListComp elt [⟨tg, iter, ifs, 0⟩] scope pos) spos) (TSi X.K W (asgS (compE md (own.map (·.2)) fi g t e) (nmG i))) := by
  refine PS.imp (ps_setLc hc hN hy hyl hsw hi ok hg ht he hs) ?_
  rintro D σ H ⟨ρ, m, h, re, sim, p⟩
  refine tLc_of md hsl σ H _ ⟨ρ, m, h, re, sim, (PostS.st re p).mono (fun u h1 m1 H1 f1 s1 p1 v rv => ?_) fun _ _ _ _ _ _ _ z => z⟩
  exact p1 m1 H1 _ Fr.refl s1 ((re.step f1).set i rv)
end
end PD

set_option Elab.async false
set_option linter.all false
set_option maxRecDepth 100000
set_option maxHeartbeats 4000000
namespace PD
open PySem PySem.Spec PyProof.Rows L2
/-! ### what a def does, what it promises -/
/-- a def's promise in a place where no text of a value is under way -/
structure FnG (P : Program) (w : World) (K : PySem.W.Frag) (mg : Str → Option Value) (base : Heap) (k : Nat) (f : Addr) (fd : FuncData) (ps : List Str) (sp : Sp) : Prop where
  len : ∀ vs H Q E, sp vs H Q E → vs.length = ps.length
  run : ∀ (A : Around) (out : List PySem.Env) (s : Shared) (H : Hp) (args : Args) (us : List Value) (vs : List V) (Q : VK) (E : XK), Room k A → A.guards = some [] → Env0 P w K mg base A out s H → BindsTo s fd args (ps.zip us) →
    Vals vs us → sp vs H Q E → codeAny (model P w) A (.call (.ref f) args) (CR (L2.CX P w) out P w H s Q E) s
/-- what a body may lean on -/
structure Bd (X : Cx) (W : WX) (k : Nat) : Prop where
  room : Room k X.A
  gd : X.A.guards = some []
  calm : X.calm = true
  own : PassesOwn (model X.prog X.w) X.A X.env X.xe
  tk : Takes X W
theorem Bd.u65 {X : Cx} {W : WX} {k : Nat} (B : Bd X W k) : X.A.units + 65 < cLine := by have := B.room.un; omega
theorem Bd.u64 {X : Cx} {W : WX} {k : Nat} (B : Bd X W k) : X.A.units + 64 < cLine := by have := B.room.un; omega
theorem Bd.u66 {X : Cx} {W : WX} {k : Nat} (B : Bd X W k) : X.A.units + 66 < cLine := by have := B.room.un; omega
/-- within a comprehension -/
theorem takesNo {X : Cx} : Takes X W0 := fun u s' ⟨_, _, _, _, _, _, _, _, _, _, _, _, _, _, _, _, z⟩ => False.elim z
theorem Bd.blk {X : Cx} {W : WX} {k : Nat} (B : Bd X W k) (s : Shared) (H : Hp) (scope : Scope) (cenv : PySem.Env) (fp : List Addr) (hx : PassesOwn (model X.prog X.w) X.A cenv (fun _ _ => False) := PassesOwn.never) : Bd (X.blk s H scope cenv fp) W0 k :=
  ⟨B.room, B.gd, B.calm, hx, takesNo⟩
theorem Bd.try_ {X : Cx} {W W' : WX} {k : Nat} (B : Bd X W k) {pn : List (Addr × Obj)} {xe : Value → Shared → Prop} (tk : Takes (X.tr pn xe) W') (ow : PassesOwn (model X.prog X.w) X.A X.env xe) : Bd (X.tr pn xe) W' k := ⟨B.room, B.gd, B.calm, ow, tk⟩

/-- plain arguments in, a plain value out -/
def spI (K : PySem.W.Frag) (n : Nat) (F : List U → IH → R U) : Sp := fun vs H Q E => ∃ us m h, us.length = n ∧ RUs K m H us vs ∧ Sim K m h H ∧
  Post K m H (F us h) (QU K Q) (fun C u _ m' H' => ∀ d v, At m' H' d (.xd [("value", v)]) → RU K m' H' u v → E (.ref C) (some d) H')
/-- a body with N names, n of them parameters -/
def fnR (N n : Nat) (b : SM) (us : List U) (h : IH) : R U := match b (us.map some ++ List.replicate (N - n) none) h with
  | .fl (.nx _) h' => .ok .non h'
  | .fl (.rt u) h' => .ok u h'
  | .exc C u _ h' => .exc C u h'
  | _ => .bad
theorem RUs.start {K : PySem.W.Frag} {m : Mm} {H : Hp} {us : List U} {vs : List V} {N : List Str} {n : Nat} (r : RUs K m H us vs) (hn : us.length = n) : RE K m H (us.map some ++ List.replicate (N.length - n) none) (L2.start N vs) := by
  unfold L2.start
  have el := r.length
  refine ⟨by simp [el, ← hn], fun i u e => ?_⟩
  by_cases hi : i < us.length
  · rw [List.getElem?_append_left (by simpa using hi), List.getElem?_map] at e
    cases q : us[i]? with
    | none => rw [q] at e; cases e
    | some x =>
      rw [q] at e
      cases e
      obtain ⟨y, ey, ry⟩ := r.get q
      refine ⟨y, ?_, ry⟩
      rw [List.getElem?_append_left (by simp; omega), List.getElem?_map, ey]
      rfl
  · rw [List.getElem?_append_right (by simpa using hi), List.getElem?_replicate] at e
    split at e <;> cases e
abbrev wG (E : XK) : WX := fun C d _ H' => E C d H'
abbrev cxG (P : Program) (w : World) (K : PySem.W.Frag) (mg : Str → Option Value) (base : Heap) (N : List Str) (qual : Str) (st : Stmt) (f : Addr) (cd : Value) (A : Around) (out : List PySem.Env) (s : Shared) (H : Hp) (E : XK) : Cx :=
  cxOf (L2.CX P w) P w K mg base N qual (defScope st) f cd A out s H E
section
variable {P : Program} {w : World} {K : PySem.W.Frag} {mg : Str → Option Value} {base : Heap}
theorem fnR_post {N n : Nat} {b : SM} {us : List U} {h : IH} {m : Mm} {H : Hp} {Q : VK} {E : XK}
    (p : Post K m H (fnR N n b us h) (QU K Q) (fun C u _ m' H' => ∀ d v, At m' H' d (.xd [("value", v)]) → RU K m' H' u v → E (.ref C) (some d) H')) :
    PostS K m H (b (us.map some ++ List.replicate (N - n) none) h) (wG E) { nx := fun _ H' => Q .non H', rt := Q } := by
  unfold fnR at p
  cases q : b (us.map some ++ List.replicate (N - n) none) h with
  | fl g h1 =>
    rw [q] at p
    cases g with
    | nx ρ => exact fun m1 H1 σ1 f1 s1 _ => p m1 H1 f1 s1 .non rfl
    | rt u => exact fun m1 H1 v f1 s1 r1 => p m1 H1 f1 s1 v r1
    | bk ρ => exact False.elim p
    | ct ρ => exact False.elim p
  | exc C u ρ h1 =>
    rw [q] at p
    exact fun m1 H1 σ1 d v f1 s1 _ a1 r1 => p m1 H1 f1 s1 d v a1 r1
  | bad => rw [q] at p; exact p
/-- a def by its body -/
theorem fn_g {x qual : Str} {st : Stmt} {f : Addr} {fd : FuncData} {N ps : List Str} {k : Nat} {b : SM} (F : Fun K x qual st f fd) (S : FnScope N ps (defScope st))
    (hb : ∀ (cd : Value) (A : Around) (out : List PySem.Env) (s : Shared) (H : Hp) (E : XK), Bd (cxG P w K mg base N qual st f cd A out s H E) (wG E) k → PSs (cxG P w K mg base N qual st f cd A out s H E) (defBody st) (TSi K (wG E) b)) :
    FnG P w K mg base (k + 1) f fd ps (spI K ps.length (fnR N.length ps.length b)) := by
  obtain ⟨oc, od, kV, doc, pm, an, cd, ct, osl, rfl, lk, hcd⟩ := F.ex
  refine ⟨fun vs H Q E ⟨us, m, h, e, r, _⟩ => by rw [← r.length, e], fun A out s H args us vs Q E hr hgd e0 hbt r hsp => ?_⟩
  obtain ⟨xs, m, h, hl, rx, sim, p⟩ := hsp
  have hl2 : vs.length = ps.length := by rw [← rx.length, hl]
  have KX : K.In s.heap := e0.mod.kin.keeps fun b o e => (e0.bs b o e).1
  have lim : s.heap.NoLimit := e0.mod.nolimit.keeps fun b o e => (e0.bs b o e).1
  refine codeAny_call_function hr.depth (KX _ _ lk) rfl S.co S.gen rfl (PySem.W.codeRec_of KX hcd) (hbt _ _ _ _ ?_)
  refine wpAny_newFunctionEnv_cells S.kind (fun y hy => ?_) fun en he s1 x => ?_
  · obtain ⟨nn, v⟩ := y
    rcases S.par nn (List.of_mem_zip hy).1 with q | q
    · exact .inl q
    · exact .inr ⟨q, PySem.W.cellsFrom_some _ _ _ (.inl q)⟩
  subst he
  refine ⟨lim.keeps x.toInCall.keep, codeAny_func ?_⟩
  have ht := hb cd A out s H E ⟨hr.deeper _, hgd, rfl, passes_of rfl, takes_of rfl rfl rfl rfl⟩
  have I : Inv (cxG P w K mg base N qual st f cd A out s H E) [] (start N vs) H s1 := inv_start S hr.hd e0 hl2 r x
  refine wpAny_mono (ht.run [] s1 (start N vs) H _ I ⟨_, m, h, rx.start hl, sim, fnR_post p⟩) (fun fl s2 hs => ?_) fun e s2 hs => hs
  have fin : ∀ {σ2 : L2.St} {H2 : Hp} {v : V} {u : Value}, Inv (cxG P w K mg base N qual st f cd A out s H E) [] σ2 H2 s2 → RelV v u → Q v H2 → CE out P w H s Q u s2 := fun J rv q => ⟨_, _, J.os, J.bare, J.base, J.hok, rv, q⟩
  cases fl with
  | ret u =>
    obtain ⟨v, σ2, H2, J, rv, q⟩ := hs
    exact fin J rv q
  | next =>
    obtain ⟨σ2, H2, J, q⟩ := hs
    exact fin (v := V.non) (u := Value.none) J rfl q
  | brk =>
    obtain ⟨_, _, _, q⟩ := hs
    exact q.elim
  | cont =>
    obtain ⟨_, _, _, q⟩ := hs
    exact q.elim
theorem FnG.mono {j k : Nat} {f : Addr} {fd : FuncData} {ps : List Str} {sp : Sp} (F : FnG P w K mg base j f fd ps sp) (h : j ≤ k) : FnG P w K mg base k f fd ps sp := ⟨F.len, fun A out s H args us vs Q E hr => F.run A out s H args us vs Q E (hr.mono h)⟩
theorem FnG.imp {k : Nat} {f : Addr} {fd : FuncData} {ps : List Str} {sp sp' : Sp} (F : FnG P w K mg base k f fd ps sp) (h : ∀ vs H Q E, sp' vs H Q E → sp vs H Q E) : FnG P w K mg base k f fd ps sp' :=
  ⟨fun vs H Q E q => F.len vs H Q E (h _ _ _ _ q), fun A out s H args us vs Q E a1 a2 a3 a4 a5 a6 => F.run A out s H args us vs Q E a1 a2 a3 a4 a5 (h _ _ _ _ a6)⟩
/-- a def that may be called by its name, with n arguments -/
structure Cal (P : Program) (w : World) (K : PySem.W.Frag) (mg : Str → Option Value) (base : Heap) (k : Nat) (x : Str) (n : Nat) (F : List U → IH → R U) : Prop where
  ex : ∃ (f : Addr) (fd : FuncData) (ps : List Str), FnG P w K mg base k f fd ps (spI K n F) ∧ mg x = some (.ref f) ∧ PySem.W.keepIn K (.ref f) = true ∧ Binds K fd ps [] ∧ ps.length = n
end

/-! ### calls -/
section
variable {X : Cx} {W : WX} {k j n : Nat} {F : List U → IH → R U} {x : Str} {e : Expr} {es : List Expr} {fs : AM} {p pos : Pos}
theorem run_g {pins : List (Addr × Obj)} {σ : L2.St} {H : Hp} {s : Shared} {Q : VK} {f : Addr} {fd : FuncData} {ps : List Str} {args : Args} {us : List Value} {vs : List V} {sp : Sp} (G : FnG X.prog X.w X.K X.mg X.base k f fd ps sp) (B : Bd X W j) (hk : k ≤ j)
    (hb : BindsTo s fd args (ps.zip us)) (I : Inv X pins σ H s) (r : Vals vs us) (h : sp vs H Q (WE W σ)) : wpAny (model X.prog X.w) X.A (call (.ref f) args.pos args.kw) (EP X pins σ Q) X.xe s := by
  refine wpAny_call (codeAny_mono (G.run X.A X.stack s H args us vs Q (WE W σ) (B.room.mono hk) B.gd I.env0 hb r h) fun res s2 hq => ?_)
  cases res with
  | ok fl =>
    cases fl with
    | ret u => exact I.after hq
    | _ => exact False.elim hq
  | error er => exact passAt B.tk σ pins H s er s2 I hq
def callF (n : Nat) (F : List U → IH → R U) (fs : AM) : EM := fun ρ h => (fs ρ h).bind fun us h1 => if us.length = n then F us h1 else .bad
theorem spI_at {σ : L2.St} {m : Mm} {h : IH} {H : Hp} {us : List U} {vs : List V} {Q : VK} (s : Sim X.K m h H) (r : RUs X.K m H us vs) (p : Post X.K m H (if us.length = n then F us h else .bad) (QU X.K Q) (exW X.K W σ)) : spI X.K n F vs H Q (WE W σ) := by
  split at p
  · rename_i hl
    exact ⟨us, m, h, hl, r, s, p⟩
  · exact False.elim p
theorem ie_call (c : Cal X.prog X.w X.K X.mg X.base k x n F) (B : Bd X W j) (hk : k ≤ j) (hg : Gl X x) (ha : PA X (e :: es) (TAi X.K W fs)) (hdb : (x == ("__debug__" : Str)) = false := by decide)
    (he : starEach (e :: es) X.env = (false, eval e X.env) :: starEach es X.env := by rfl) (hpl : (backTo pos (starEach es X.env)).any (·.1) = false := by rfl) : PE X (.Call (.Name x p) (e :: es) [] pos) (TEi X.K W (callF n F fs)) := by
  obtain ⟨f, fd, ps, G, hm, hkp, hb, hn⟩ := c.ex
  refine ⟨fun pins s σ H Q I q => ?_⟩
  obtain ⟨ρ, m, h, re, sim, pp⟩ := q
  refine wpAny_Call_Name_kw (ld_glob I hg hm ?_ hdb)
  refine PySem.W.callWith_K (h₀ := X.base) I.ok.mod.kin hkp (thn (ha.run pos pins s σ H _ I ⟨ρ, m, h, re, sim, pp.bind.mono (fun us h1 m1 H1 f1 s1 p1 vs rvs => (⟨us, m1, h1, rvs, s1, p1⟩ : ∃ us m h, RUs X.K m H1 us vs ∧ Sim X.K m h H1 ∧ Post X.K m H1 (if us.length = n then F us h else .bad) (QU X.K Q) (exW X.K W σ))) fun _ _ _ _ _ _ _ z => z⟩) fun us s1 hh => ?_) he hpl
  obtain ⟨vs, H1, I1, r1, xs, m1, h1, rvs, s1', p1⟩ := hh
  have hsp := spI_at (W := W) (σ := σ) s1' rvs p1
  refine ⟨I1.kIn, ?_⟩
  have hl : (us ++ ([] : List Value)).length = ps.length := by rw [List.append_nil, ← r1.length]; exact G.len _ _ _ _ hsp
  have hbt := hb s1 us I1.kIn hl
  rw [List.append_nil] at hbt
  exact run_g (args := ⟨us, []⟩) G B hk hbt I1 r1 hsp
theorem ie_call0 (c : Cal X.prog X.w X.K X.mg X.base k x 0 F) (B : Bd X W j) (hk : k ≤ j) (hg : Gl X x) (hdb : (x == ("__debug__" : Str)) = false := by decide) : PE X (.Call (.Name x p) [] [] pos) (TEi X.K W (callF 0 F nilA)) := by
  obtain ⟨f, fd, ps, G, hm, hkp, hb, hn⟩ := c.ex
  refine ⟨fun pins s σ H Q I q => ?_⟩
  obtain ⟨ρ, m, h, re, sim, pp⟩ := q
  refine wpAny_Call_Name_kw (ld_glob I hg hm ?_ hdb)
  have hsp : spI X.K 0 F [] H Q (WE W σ) := spI_at (n := 0) (us := []) sim RUs.nil pp
  refine PySem.W.callWith_K0 I.kIn hkp ?_
  have hbt := hb s [] I.kIn (by rw [hn]; rfl)
  exact run_g (args := ⟨[], []⟩) (us := []) G B hk hbt I .nil hsp
/-- keywords alone: which one stands where -/
def pick {α : Type} (l : List α) : List Nat → List α
  | [] => []
  | i :: r => match l[i]? with
    | some a => a :: pick l r
    | none => pick l r
theorem vals_pick {vs : List V} {us : List Value} (r : Vals vs us) : ∀ ix : List Nat, Vals (pick vs ix) (pick us ix)
  | [] => .nil
  | i :: t => by
    unfold pick
    cases e : vs[i]? with
    | none =>
      have e2 : us[i]? = none := by rw [List.getElem?_eq_none_iff] at e ⊢; rw [← r.length]; exact e
      rw [e2]
      exact vals_pick r t
    | some a =>
      obtain ⟨u, hu, rv⟩ := r.get e
      rw [hu]
      exact .cons rv (vals_pick r t)
theorem rus_pick {K : PySem.W.Frag} {m : Mm} {H : Hp} {us : List U} {vs : List V} (r : RUs K m H us vs) : ∀ ix : List Nat, RUs K m H (pick us ix) (pick vs ix)
  | [] => RUs.nil
  | i :: t => by
    unfold pick
    cases e : us[i]? with
    | none =>
      have e2 : vs[i]? = none := by rw [List.getElem?_eq_none_iff] at e ⊢; rw [← r.length]; exact e
      rw [e2]
      exact rus_pick r t
    | some a =>
      obtain ⟨u, hu, rv⟩ := r.get e
      rw [hu]
      exact .cons rv (rus_pick r t)
/-- .. with keywords alone, named ks -/
structure CalK (P : Program) (w : World) (K : PySem.W.Frag) (mg : Str → Option Value) (base : Heap) (k : Nat) (x : Str) (n : Nat) (ks : List Str) (ix : List Nat) (F : List U → IH → R U) : Prop where
  ex : ∃ (f : Addr) (fd : FuncData) (ps : List Str), FnG P w K mg base k f fd ps (spI K n F) ∧ mg x = some (.ref f) ∧ PySem.W.keepIn K (.ref f) = true ∧ ps.length = n ∧
    ∀ (s : Shared) (us : List Value), K.In s.heap → us.length = ks.length → BindsTo s fd ⟨[], ks.zip us⟩ (ps.zip (pick us ix))
def callK (n l : Nat) (ix : List Nat) (F : List U → IH → R U) (fs : AM) : EM := fun ρ h => (fs ρ h).bind fun us h1 => if us.length = l ∧ (pick us ix).length = n then F (pick us ix) h1 else .bad
theorem PK.imp {kws : List Keyword} {t t' : TA} (p : PK X kws t) (h : ∀ σ H Q, t' σ H Q → t σ H Q) : PK X kws t' := ⟨fun pos pins s σ H Q I q => p.run pos pins s σ H Q I (h _ _ _ q)⟩
theorem ik_nil : PK X [] (TAi X.K W nilA) := by
  refine PK.imp pk_nil ?_
  rintro σ H Q ⟨ρ, m, h, re, sim, p⟩
  exact p.here sim [] RUs.nil
theorem ik_cons {nm : Option Str} {kpos : Pos} {kws : List Keyword} {fa : EM} (ha : PE X e (TEi X.K W fa)) (hr : PK X kws (TAi X.K W fs)) : PK X (⟨nm, e, kpos⟩ :: kws) (TAi X.K W (consA fa fs)) := by
  refine PK.imp (pk_cons ha hr) ?_
  rintro σ H Q ⟨ρ, m, h, re, sim, p⟩
  refine ⟨ρ, m, h, re, sim, p.bind.mono (fun u h1 m1 H1 f1 s1 p1 v rv => ?_) fun _ _ _ _ _ _ _ z => z⟩
  refine ⟨ρ, m1, h1, re.step f1, s1, p1.bind.mono (fun us h2 m2 H2 f2 s2 p2 vs rvs => ?_) fun _ _ _ _ _ _ _ z => z⟩
  exact p2.here s2 _ (RUs.cons (rv.step f2) rvs)
theorem ie_callK {kws : List Keyword} {ks : List Str} {ix : List Nat} (c : CalK X.prog X.w X.K X.mg X.base k x n ks ix F) (B : Bd X W j) (hk : k ≤ j) (hg : Gl X x) (hkw : PK X kws (TAi X.K W fs))
    (hall : (backToKw pos (keywordEach kws X.env)).all (·.1.isSome) = true := by rfl) (hks : (backToKw pos (keywordEach kws X.env)).filterMap (·.1) = ks := by rfl) (hdb : (x == ("__debug__" : Str)) = false := by decide)
    (hpl : ((backTo pos (starEach [] X.env)).any (·.1) || (backToKw pos (keywordEach kws X.env)).any (·.1.isNone)) = false := by rfl) : PE X (.Call (.Name x p) [] kws pos) (TEi X.K W (callK n ks.length ix F fs)) := by
  obtain ⟨f, fd, ps, G, hm, hkp, hn, hb⟩ := c.ex
  refine ⟨fun pins s σ H Q I q => ?_⟩
  obtain ⟨ρ, m, h, re, sim, pp⟩ := q
  refine wpAny_Call_Name_kw (ld_glob I hg hm ?_ hdb)
  refine PySem.W.callWith_KW0 (h₀ := X.base) I.ok.mod.kin hkp hall (thn (hkw.run pos pins s σ H _ I ⟨ρ, m, h, re, sim, pp.bind.mono (fun us h1 m1 H1 f1 s1 p1 vs rvs => (⟨us, m1, h1, rvs, s1, p1⟩ :
    ∃ us m h, RUs X.K m H1 us vs ∧ Sim X.K m h H1 ∧ Post X.K m H1 (if us.length = ks.length ∧ (pick us ix).length = n then F (pick us ix) h else .bad) (QU X.K Q) (exW X.K W σ))) fun _ _ _ _ _ _ _ z => z⟩) fun us s1 hh => ?_) hpl
  obtain ⟨vs, H1, I1, r1, xs, m1, h1, rvs, s1', p1⟩ := hh
  split at p1
  · rename_i hl
    refine ⟨I1.kIn, ?_⟩
    rw [hks]
    exact run_g (args := ⟨[], ks.zip us⟩) G B hk (hb s1 us I1.kIn (by rw [← r1.length, ← rvs.length, hl.1])) I1 (vals_pick r1 ix) ⟨pick xs ix, m1, h1, hl.2, rus_pick rvs ix, s1', p1⟩
  · exact False.elim p1
end
end PD

set_option Elab.async false
set_option linter.all false
set_option maxRecDepth 100000
set_option maxHeartbeats 4000000
namespace PD
open PySem PySem.Spec PyProof.Rows L2
/-! ### the objects of a call are let go; a list that it made and gives back is locked -/
mutual
/-- all places lie below n -/
def low (n : Nat) : U → Bool
  | .ref k => decide (k < n)
  | .tup xs => lows n xs
  | .lst xs => lows n xs
  | .scr xs => lows n xs
  | .exc _ u => low n u
  | .dic _ xs => lows n xs
  | _ => true
def lows (n : Nat) : List U → Bool
  | [] => true
  | x :: xs => low n x && lows n xs
end
def lowO (n : Nat) : O → Bool
  | .lst xs => lows n xs
  | .dk kvs => lows n (kvs.map (·.2))
  | .dt kvs => lows n (kvs.map (·.2))
  | .ins _ fs => lows n (fs.map (·.2))
/-- lists at and behind n are locked -/
def frz (h : IH) (n : Nat) : Nat → U → U
  | 0, u => u
  | f + 1, u => match u with
    | .ref k => if k < n then .ref k else match h[k]? with
      | some (.lst xs) => .lst (xs.map (frz h n f))
      | _ => .ref k
    | .tup xs => .tup (xs.map (frz h n f))
    | .lst xs => .lst (xs.map (frz h n f))
    | u => u
section
variable {K : PySem.W.Frag} {m m' : Mm} {H H' : Hp} {h h' : IH}
mutual
theorem low_of (s : m.o.length = n) : ∀ {u : U} {v : V}, RU K m H u v → low n u = true
  | .non, _, _ => rfl
  | .bl _, _, _ => rfl
  | .int _, _, _ => rfl
  | .str _, _, _ => rfl
  | .adr _, _, _ => rfl
  | .tup xs, _, r => by obtain ⟨_, _, _, _, q⟩ := r; exact lows_of s q
  | .lst xs, _, r => by obtain ⟨_, _, _, _, q⟩ := r; exact lows_of s q
  | .scr xs, _, r => by obtain ⟨_, _, _, _, q⟩ := r; exact lows_of s q
  | .ref k, _, r => by
    obtain ⟨a, _, q⟩ := r
    show decide (k < n) = true
    rw [← s]
    exact decide_eq_true (List.getElem?_eq_some_iff.mp q).1
  | .dic ks xs, _, r => by obtain ⟨_, _, _, _, _, q⟩ := r; exact lows_of s q
  | .exc C u, _, r => by
    obtain ⟨_, _, _, _, _, _, q⟩ := r
    show low n u = true
    exact low_of s q
theorem lows_of (s : m.o.length = n) : ∀ {us : List U} {vs : List V}, RUs K m H us vs → lows n us = true
  | [], _, _ => rfl
  | x :: xs, _, r => by
    obtain ⟨_, _, _, q1, q2⟩ := r
    show (low n x && lows n xs) = true
    rw [low_of s q1, lows_of s q2]; rfl
end
/-- what is shorter in objects -/
structure Dn (m m' : Mm) (H : Hp) : Prop where
  ex : ∃ e, m'.o = m.o ++ e
  px : m'.x = m.x
theorem Dn.at_ (d : Dn m m' H) {a : Addr} {o : HO} (h : At m' H a o) : At m H a o := ⟨h.h, fun z => h.no (by obtain ⟨e, p⟩ := d.ex; rw [p]; exact List.mem_append_left _ z), by rw [← d.px]; exact h.nx⟩
theorem Dn.tup (d : Dn m m' H) {a : Addr} {ys : List V} (h : TupA K m' H a ys) : TupA K m H a ys := by
  rcases h with h | h
  · exact .inl (d.at_ h)
  · exact .inr h
theorem Dn.scr (d : Dn m m' H) {a : Addr} {ys : List V} (h : ScrA K m' H a ys) : ScrA K m H a ys := by
  rcases h with ⟨o, h⟩ | h
  · exact .inl ⟨o, d.at_ h⟩
  · exact .inr h
theorem Dn.get (d : Dn m m' H) {k : Nat} {a : Addr} (h : m'.o[k]? = some a) (hk : k < m.o.length) : m.o[k]? = some a := by
  obtain ⟨e, p⟩ := d.ex
  rw [p, List.getElem?_append_left hk] at h
  exact h
mutual
theorem Dn.ru (d : Dn m m' H) : ∀ {u : U} {v : V}, low m.o.length u = true → RU K m' H u v → RU K m H u v
  | .non, _, _, r => r
  | .bl _, _, _, r => r
  | .int _, _, _, r => r
  | .str _, _, _, r => r
  | .adr _, _, _, r => r
  | .tup xs, _, l, r => by obtain ⟨a, ys, e, t, q⟩ := r; exact ⟨a, ys, e, d.tup t, Dn.rus d l q⟩
  | .lst xs, _, l, r => by obtain ⟨a, ys, e, t, q⟩ := r; exact ⟨a, ys, e, d.at_ t, Dn.rus d l q⟩
  | .scr xs, _, l, r => by obtain ⟨a, ys, e, t, q⟩ := r; exact ⟨a, ys, e, d.scr t, Dn.rus d l q⟩
  | .ref k, _, l, r => by obtain ⟨a, e, q⟩ := r; exact ⟨a, e, d.get q (of_decide_eq_true l)⟩
  | .dic ks xs, _, l, r => by obtain ⟨a, ys, e, z, t, q⟩ := r; exact ⟨a, ys, e, z, d.at_ t, Dn.rus d l q⟩
  | .exc C u, _, l, r => by obtain ⟨a, dd, y, e, h1, h2, q⟩ := r; exact ⟨a, dd, y, e, d.at_ h1, d.at_ h2, Dn.ru d l q⟩
theorem Dn.rus (d : Dn m m' H) : ∀ {us : List U} {vs : List V}, lows m.o.length us = true → RUs K m' H us vs → RUs K m H us vs
  | [], _, _, r => r
  | x :: xs, _, l, r => by
    obtain ⟨y, t, e, q1, q2⟩ := r
    have l : (low m.o.length x && lows m.o.length xs) = true := l
    obtain ⟨l1, l2⟩ := Bool.and_eq_true_iff.mp l
    exact ⟨y, t, e, Dn.ru d l1 q1, Dn.rus d l2 q2⟩
end
theorem frz_rus {n f : Nat} (ih : ∀ {u : U} {v : V}, low n (frz h n f u) = true → RU K m' H u v → RU K m H (frz h n f u) v) : ∀ {us : List U} {vs : List V}, lows n (us.map (frz h n f)) = true → RUs K m' H us vs → RUs K m H (us.map (frz h n f)) vs
  | [], _, _, r => r
  | x :: xs, _, l, r => by
    obtain ⟨y, t, e, q1, q2⟩ := r
    have l : (low n (frz h n f x) && lows n (xs.map (frz h n f))) = true := l
    obtain ⟨l1, l2⟩ := Bool.and_eq_true_iff.mp l
    exact ⟨y, t, e, ih l1 q1, frz_rus ih l2 q2⟩
/-- a value that is given back: its new lists are locked -/
theorem frz_ru (d : Dn m m' H) (s : Sim K m' h H) (hx : ∀ k a, m.o.length ≤ k → m'.o[k]? = some a → a ∉ m.o ∧ a ∉ m.x) : ∀ (f : Nat) {u : U} {v : V}, low m.o.length (frz h m.o.length f u) = true → RU K m' H u v → RU K m H (frz h m.o.length f u) v
  | 0, u, v, l, r => d.ru l r
  | f + 1, .ref k, v, l, r => by
    obtain ⟨a, e, q⟩ := r
    unfold frz at l ⊢
    dsimp only at l ⊢
    by_cases hk : k < m.o.length
    · rw [if_pos hk]
      exact ⟨a, e, d.get q hk⟩
    · rw [if_neg hk] at l ⊢
      cases q2 : h[k]? with
      | none =>
        rw [q2] at l
        exact absurd (of_decide_eq_true l) hk
      | some o =>
        rw [q2] at l
        cases o with
        | lst xs =>
          obtain ⟨ys, e1, r1⟩ := s.lst q2 q
          obtain ⟨n1, n2⟩ := hx k a (Nat.le_of_not_lt hk) q
          exact ⟨a, ys, e, ⟨e1, n1, n2⟩, frz_rus (fun l r => frz_ru d s hx f l r) l r1⟩
        | _ => exact absurd (of_decide_eq_true l) hk
  | f + 1, .tup xs, v, l, r => by
    obtain ⟨a, ys, e, t, q⟩ := r
    exact ⟨a, ys, e, d.tup t, frz_rus (fun l r => frz_ru d s hx f l r) l q⟩
  | f + 1, .lst xs, v, l, r => by
    obtain ⟨a, ys, e, t, q⟩ := r
    exact ⟨a, ys, e, d.at_ t, frz_rus (fun l r => frz_ru d s hx f l r) l q⟩
  | f + 1, .non, v, l, r => r
  | f + 1, .bl _, v, l, r => r
  | f + 1, .int _, v, l, r => r
  | f + 1, .str _, v, l, r => r
  | f + 1, .adr _, v, l, r => r
  | f + 1, .scr xs, v, l, r => d.ru l r
  | f + 1, .dic ks xs, v, l, r => d.ru l r
  | f + 1, .exc C u, v, l, r => d.ru l r
theorem Con.low (hn : m.o.length = n) {o : O} {ho : HO} (c : Con K m H o ho) : lowO n o = true := by
  cases o with
  | lst xs => obtain ⟨_, _, r⟩ := c; exact lows_of hn r
  | dk kvs => obtain ⟨_, _, _, r⟩ := c; exact lows_of hn r
  | dt kvs => obtain ⟨_, _, _, r⟩ := c; exact lows_of hn r
  | ins C fs => obtain ⟨_, _, _, _, r⟩ := c; exact lows_of hn r
theorem Dn.con (d : Dn m m' H) {o : O} {ho : HO} (l : lowO m.o.length o = true) (c : Con K m' H o ho) : Con K m H o ho := by
  cases o with
  | lst xs => obtain ⟨ys, e, r⟩ := c; exact ⟨ys, e, d.rus l r⟩
  | dk kvs => obtain ⟨ys, e, q, r⟩ := c; exact ⟨ys, e, q, d.rus l r⟩
  | dt kvs => obtain ⟨ys, e, q, r⟩ := c; exact ⟨ys, e, q, d.rus l r⟩
  | ins C fs => obtain ⟨dx, ys, e, q, r⟩ := c; exact ⟨dx, ys, e, q, d.rus l r⟩
end
/-- the old objects are as they were, or hold nothing that is new -/
def Kpt (h h' : IH) : Prop := h.length ≤ h'.length ∧ ∀ i, i < h.length → h'[i]? = h[i]? ∨ ∃ o, h'[i]? = some o ∧ lowO h.length o = true
open Classical in
noncomputable def pop (h : IH) : R U → R U
  | .ok u h' => if Kpt h h' ∧ low h.length (frz h' h.length 3 u) = true then .ok (frz h' h.length 3 u) (h'.take h.length) else .ok u h'
  | .exc C u h' => if Kpt h h' ∧ low h.length (frz h' h.length 3 u) = true then .exc C (frz h' h.length 3 u) (h'.take h.length) else .exc C u h'
  | .bad => .bad
theorem Sim.take {K : PySem.W.Frag} {m m' : Mm} {H H' : Hp} {h h' : IH} (s : Sim K m h H) (f : Fr m H m' H') (s' : Sim K m' h' H') (k : Kpt h h') : Dn m m' H' ∧ Fr m H m H' ∧ Sim K m (h'.take h.length) H' ∧ ∀ i a, m.o.length ≤ i → m'.o[i]? = some a → a ∉ m.o ∧ a ∉ m.x := by
  obtain ⟨e, p, he⟩ := f.pre
  have d : Dn m m' H' := ⟨⟨e, p⟩, f.px⟩
  refine ⟨d, ⟨⟨[], by simp, by simp⟩, rfl, f.keep, f.live⟩, ⟨s.nd, by rw [List.length_take, s.len]; have := k.1; omega, fun i a o e1 e2 => ?_, fun a ha => f.live a (s.rx a ha)⟩, fun i a hi e1 => ?_⟩
  · have hi : i < m.o.length := (List.getElem?_eq_some_iff.mp e1).1
    have hi2 : i < h.length := by rw [← s.len]; exact hi
    rw [List.getElem?_take_of_lt hi2] at e2
    have e3 : m'.o[i]? = some a := by rw [p, List.getElem?_append_left hi]; exact e1
    obtain ⟨ho, e4, c⟩ := s'.obj i a o e3 e2
    refine ⟨ho, e4, d.con ?_ c⟩
    rcases k.2 i hi2 with q | ⟨o2, q, l⟩
    · rw [q] at e2
      obtain ⟨ho2, e5, c2⟩ := s.obj i a o e1 e2
      exact c2.low rfl
    · rw [q] at e2
      cases e2
      rw [s.len]; exact l
  · rw [p, List.getElem?_append_right hi] at e1
    have ha : a ∈ e := List.mem_of_getElem? e1
    have hn := he a ha
    exact ⟨fun z => s.live z hn, fun z => s.rx a z hn⟩
theorem pop_post {K : PySem.W.Frag} {m : Mm} {H : Hp} {h : IH} {r : R U} {Q : VK} {Wn : Addr → U → Hp → Mm → Prop} (s : Sim K m h H)
    (hW : ∀ C u m' H', Fr m H m' H' → (∀ d v, At m' H' d (.xd [("value", v)]) → RU K m' H' u v → Wn C u H' m') → True)
    {E : XK} (p : Post K m H (pop h r) (QU K Q) (fun C u _ m' H' => ∀ d v, At m' H' d (.xd [("value", v)]) → RU K m' H' u v → E (.ref C) (some d) H')) :
    Post K m H r (QU K Q) (fun C u _ m' H' => ∀ d v, At m' H' d (.xd [("value", v)]) → RU K m' H' u v → E (.ref C) (some d) H') := by
  cases r with
  | ok u h' =>
    unfold pop at p
    dsimp only at p
    split at p
    · rename_i hc
      obtain ⟨hk, hl⟩ := hc
      intro m' H' f s' v rv
      obtain ⟨d, f2, s2, hx⟩ := s.take f s' hk
      rw [← s.len] at hl p
      exact p m H' f2 (by rw [s.len]; exact s2) v (frz_ru d s' hx 3 hl rv)
    · exact p
  | exc C u h' =>
    unfold pop at p
    dsimp only at p
    split at p
    · rename_i hc
      obtain ⟨hk, hl⟩ := hc
      intro m' H' f s' dd v a1 rv
      obtain ⟨d, f2, s2, hx⟩ := s.take f s' hk
      rw [← s.len] at hl p
      exact p m H' f2 (by rw [s.len]; exact s2) dd v (d.at_ a1) (frz_ru d s' hx 3 hl rv)
    · exact p
  | bad => exact p
noncomputable def popF (F : List U → IH → R U) : List U → IH → R U := fun us h => pop h (F us h)
theorem FnG.pop {P : Program} {w : World} {K : PySem.W.Frag} {mg : Str → Option Value} {base : Heap} {k n : Nat} {f : Addr} {fd : FuncData} {ps : List Str} {F : List U → IH → R U} (G : FnG P w K mg base k f fd ps (spI K n F)) : FnG P w K mg base k f fd ps (spI K n (popF F)) :=
  G.imp fun vs H Q E ⟨us, m, h, hl, r, s, p⟩ => ⟨us, m, h, hl, r, s, pop_post (Wn := fun _ _ _ _ => True) s (fun _ _ _ _ _ _ => trivial) p⟩
/-- the same, with the numbers told -/
theorem fn_n {P : Program} {w : World} {K : PySem.W.Frag} {mg : Str → Option Value} {base : Heap} {x qual : Str} {st : Stmt} {f : Addr} {fd : FuncData} {N ps : List Str} {k n p : Nat} {b : SM} (F : Fun K x qual st f fd) (S : FnScope N ps (defScope st)) (hn : N.length = n) (hp : ps.length = p)
    (hb : ∀ (cd : Value) (A : Around) (out : List PySem.Env) (s : Shared) (H : Hp) (E : XK), Bd (cxG P w K mg base N qual st f cd A out s H E) (wG E) k → PSs (cxG P w K mg base N qual st f cd A out s H E) (defBody st) (TSi K (wG E) b)) :
    FnG P w K mg base (k + 1) f fd ps (spI K p (fnR n p b)) := by
  subst hn hp
  exact fn_g F S hb
theorem Cal.mk_ {P : Program} {w : World} {K : PySem.W.Frag} {mg : Str → Option Value} {base : Heap} {k : Nat} {x : Str} {f : Addr} {fd : FuncData} {ps : List Str} {F : List U → IH → R U} (G : FnG P w K mg base k f fd ps (spI K ps.length F))
    (hm : mg x = some (.ref f)) (hk : PySem.W.keepIn K (.ref f) = true) (hb : Binds K fd ps []) : Cal P w K mg base k x ps.length F := ⟨f, fd, ps, G, hm, hk, hb, rfl⟩
end PD

set_option Elab.async false
set_option linter.all false
set_option maxRecDepth 100000
set_option maxHeartbeats 4000000
namespace PD
open PySem PySem.Spec PyProof.Rows L2
/-! ### the errors of the package: an __init__ that asks ValueError's and keeps the value -/
def eiA (p1 p2 : Pos) : Arguments := { posonlyargs := [], args := [{ arg := "self", annotation := none, pos := p1 }, { arg := "value", annotation := none, pos := p2 }], vararg := none, kwonlyargs := [], kw_defaults := [], kwarg := none, defaults := [] }
def eiB (m : Str) (j l c1 c2 l1 l2 e1 e2 : Nat) (p0 p1 p3 p5 q1 q2 q3 q4 : Pos) : List Stmt :=
  [.Expr (.Call (.Attribute (.Call (.Name "super" p0) [] [] p1) "__init__" ⟨l1, c1, l, e1⟩) [.Constant (.str m) j p3] [] ⟨l, c2, l2, e2⟩) p5, .Assign [.Attribute (.Name "self" q1) "value" q2] (.Name "value" q3) q4]
def eiS : Scope := { kind := .function, names := [(PySem.Str.ofString "self", .local), (PySem.Str.ofString "value", .local), (PySem.Str.ofString "__class__", .free), (PySem.Str.ofString "super", .globalImplicit)], isGenerator := false, isCoroutine := false, more := [] }
/-- the base's __init__ at fI, its class at D -/
structure ErrB (P : Program) (K : PySem.W.Frag) (mg : Str → Option Value) (D fI : Addr) : Prop where
  fn : ∃ (oc : Value) (od : Option Addr) (doc pm : Value) (an : Option Addr) (cda cc : Addr) (ct : Value) (osl : Array (Option Value)) (m : Str) (j l c1 c2 l1 l2 e1 e2 : Nat) (a1 a2 p0 p1 p3 p5 q1 q2 q3 q4 : Pos)
    (ccl cl : Value) (cdd cld : Option Addr) (vs : Array Value) (ccs csl : Array (Option Value)) (file : Str) (tf : Tok),
    K.lookup fI = some ⟨oc, od, .func (PySem.W.ksFn "__init__" "HeapError.__init__" (eiA a1 a2) (eiB m j l c1 c2 l1 l2 e1 e2 p0 p1 p3 p5 q1 q2 q3 q4) eiS .none .none doc pm an (.ref cda) ct cc), osl⟩ ∧ PySem.W.codeIn K (.ref cda) "HeapError.__init__" = true ∧
      K.lookup cda = some ⟨ccl, cdd, .fields vs, ccs⟩ ∧ vs[2]? = some (.str file tf) ∧ ((P.main.file : Str) == file) = true ∧ K.lookup cc = some ⟨cl, cld, .cell (some (.ref D)), csl⟩
  clD : (PySem.W.clsIn K D).isSome = true
  op : PySem.W.nsIn K cStatics "thirdparty.any" = some none
  ns : mg "super" = none
  top : (P.main.scope.names.lookup ("super" : Str)).isSome = false
  tf : PySem.W.typeIn K (.ref fI) = some (.type "function")
/-- a class of it -/
structure ErrC (K : PySem.W.Frag) (C D fI : Addr) : Prop where
  cls : ∃ nm q N bs bm sn sub ab col dd k0 k1 k2 k3 k5, K.lookup C = some (excClassObj nm q C N bs bm true sn sub ab col dd k0 k1 k2 k3 k5 "ValueError.__new__") ∧ PySem.HandSPX.refsVE bm = true
  inD : PySem.W.mroIn K C (.ref D) = some true
  ve : PySem.W.subIn K (.ref C) (.type "ValueError") = some true
  su : PySem.W.ks_superIn K C D "__init__" = some (some (.builtin "ValueError.__init__"))
  sa : PySem.W.findIn K (.ref C) "__setattr__" = some (some (.builtin "object.__setattr__"))
  nv : PySem.W.findIn K (.ref C) "value" = some none
  ini : PySem.W.findIn K (.ref C) "__init__" = some (some (.ref fI))
  kC : PySem.W.keepIn K (.ref C) = true
  exC : PySem.W.subIn K (.ref C) (.type "BaseException") = some true
  tyC : PySem.W.typeIn K (.ref C) = some (.type "type")
/-- what __init__ leaves of a fresh error at x -/
structure ErrEnd (h h' : Heap) (x C dx t1 : Addr) (v : Value) : Prop where
  keep : ∀ b o, b ≠ x → h.get? b = some o → h'.get? b = some o
  obj : h'.get? x = some { cls := .ref C, dict := some dx, data := .fields #[.ref t1, .none, .none, .none, .bool false, .none] }
  big : h.objs.size ≤ dx
  ne : dx ≠ x
  ns : h'.Ns1 dx (fun y => if y = "value" then some v else none)
theorem sized (v : Value) : [v].length ≤ sizeLine := by rw [sizeLine_eq]; show 1 ≤ 16777216; omega
section
variable {P : Program} {w : World} {A : Around} {E : Value → Shared → Prop} {s : Shared} {K : PySem.W.Frag} {mg : Str → Option Value} {C D fI : Addr}
/-- the bound __init__ of ValueError, called -/
theorem mw_call {h : Heap} {g : Array GenState} {d : Drawn} {t : Nat} {os : OsState} {u e t0 : Addr} {v : Value} {Q : Value → Shared → Prop} (T : ErrC K C D fI) (X : K.In h) (he : h.get? e = some (PySem.HandSPX.excO C t0)) (hu : h.get? u = some (PySem.W.kxs_mw "ValueError.__init__" e))
    (hq : ∀ h' t1, (∀ b o, b ≠ e → h.get? b = some o → h'.get? b = some o) → h'.get? e = some (PySem.HandSPX.excO C t1) → Q .none ⟨h', g, d, t, os⟩) : wpAny (model P w) A (call (.ref u) [v]) Q E ⟨h, g, d, t, os⟩ := by
  obtain ⟨nm, q, N, bs, bm, sn, sub, ab, col, dd, k0, k1, k2, k3, k5, hC, hbm⟩ := T.cls
  have f1 : (Value.type "method-wrapper" == Value.type "method" || Value.type "method-wrapper" == Value.type "builtin_function_or_method" || Value.type "method-wrapper" == Value.type "method-wrapper") = true := by decide
  refine wpAny_call (codeAny_of_tree (show wpAny _ A.in1 (callAny (.ref u) ⟨[v], []⟩) _ _ _ from ?_))
  unfold callAny
  refine wpAny_bind (wpAny_load hu ?_)
  simp only [PySem.W.kxs_mw, f1, if_true]
  refine PySem.W.KFB.if_so (by decide) (wpAny_bind (PySem.W.check_bound_init F.excBase_ValueError.toExcCallFacts (X _ _ hC) he rfl ?_))
  refine wpAny_bind (wpAny_pure (wpAny_pure ⟨plainId_quiet F.excBase_ValueError.init.plain _, codeAny_builtin F.excBase_ValueError.initEntry ?_⟩))
  exact PySem.W.exc_init_tree (cls := .ref C) (t0 := t0) (dv := none) (c2 := .none) (c3 := .none) (b4 := .bool false) he (sized v) fun h' k e1 e2 => hq h' _ k e1

theorem err_ev {M : Model} {env : PySem.Env} {y : Str} {pos : Pos} {m : Str → Option Value} {v : Value} {Q : Value → Shared → Prop} (hn : s.heap.Ns env.locals m) (hv : m y = some v) (h : Q v s) (hk : env.scope.kind = .function) (hl : env.kindOf y = some .local) (hd : (y == ("__debug__" : Str)) = false) :
    wpAny M A (eval (.Name y pos) env) Q E s := wpAny_Name (wpAny_loadName_local hk hl hn hv h) hd
theorem err_form {o : Expr} {y : Str} {e : Expr} {env : PySem.Env} {l c1 c2 l1 l2 e1 e2 : Nat} (hs : starEach [e] env = [(false, eval e env)]) : eval (.Call (.Attribute o y ⟨l1, c1, l, e1⟩) [e] [] ⟨l, c2, l2, e2⟩) env = (do
      let ov ← attributeBase o y env (eval o env)
      standAt (Pos.mk l1 c1 l e1).atName
      let (f, first) ← holding [ov] (getMethod ov y (do return (← importBound o env).getD true))
      callWith ⟨l, c2, l2, e2⟩ f first (backTo ⟨l, c2, l2, e2⟩ (starEach [e] env)) []) := by
  have hp : methodCallPos true o env ⟨l1, c1, l, e1⟩ ⟨l, c2, l2, e2⟩ = pure ⟨l, c2, l2, e2⟩ := by
    unfold methodCallPos
    simp
  have hf : methodCallForm 1 (backTo ⟨l, c2, l2, e2⟩ (starEach [e] env)) [] = true := by
    rw [hs]
    rfl
  show (do
      let ov ← attributeBase o y env (eval o env)
      standAt (Pos.mk l1 c1 l e1).atName
      methodCall o y ⟨l1, c1, l, e1⟩ ⟨l, c2, l2, e2⟩ env ov 1 (backTo ⟨l, c2, l2, e2⟩ (starEach [e] env)) []) = _
  unfold methodCall
  rw [hf, hp]
  rfl
theorem err_init {R : Result → Shared → Prop} (B : ErrB P K mg D fI) (T : ErrC K C D fI) {x t0 : Addr} {v : Value} (X : K.In s.heap) (hlim : s.heap.NoLimit) (G : s.heap.Ns mainGlobals mg)
    (bl : ∃ mb, s.heap.Ns builtinsNs mb ∧ ∀ x : Str, x ≠ "__name__" → mb x = bootBuiltins x) (hx : s.heap.get? x = some (PySem.HandSPX.excO C t0)) (hxK : K.lookup x = none) (hroom : A.depth < recursionLimit)
    (hq : ∀ h' tk dx t1, ErrEnd s.heap h' x C dx t1 v → R (.ok (.ret .none)) { s with heap := h', toks := tk }) : codeAny (model P w) A (.call (.ref fI) ⟨[.ref x, v], []⟩) R s := by
  obtain ⟨oc, od, doc, pm, an, cda, cc, ct, osl, m, j, l, c1, c2, l1, l2, ee1, ee2, a1, a2, p0, p1, p3, p5, q1, q2, q3, q4, ccl, cl, cdd, cld, vs, ccs, csl, file, tf, lk, hcd, lc, hvs, hfile, lcell⟩ := B.fn
  obtain ⟨nm, q, N, bs, bm, sn, sub, ab, col, dd, k0, k1, k2, k3, k5, hC, hbm⟩ := T.cls
  have hcl : PySem.W.clsIn K C = some { name := nm, bases := bs, mro := .ref C :: bm, ns := N, qualname := q, hasDict := true, slotNames := sn, subclasses := sub, abstract := ab, collection := col, hasDel := false } := by unfold PySem.W.clsIn; rw [hC] <;> rfl
  obtain ⟨cdD, hcD⟩ := Option.isSome_iff_exists.mp B.clD
  obtain ⟨oD, hD1, hD2⟩ : ∃ oD, K.lookup D = some oD ∧ oD.data = .cls cdD := by
    unfold PySem.W.clsIn at hcD
    split at hcD
    · rename_i z1 z2 z3 z4 ho
      cases hcD
      exact ⟨_, ho, rfl⟩
    · cases hcD
  obtain ⟨mb, hmb, hbb⟩ := bl
  refine PySem.ks_codeAny_call_defAt (body := eiB m j l c1 c2 l1 l2 ee1 ee2 p0 p1 p3 p5 q1 q2 q3 q4) (binds := [("self", .ref x), ("value", v)]) hroom (X _ _ lk) rfl hlim (PySem.W.codeRec_of X hcd) rfl (BindsTo.of_eq (by first | rfl | with_unfolding_all rfl))
    (show ∀ y ∈ eiS.names, y.2 ≠ .cell from by decide) (fun y hy => ?_) (fun h1 hns k1' => ?_) rfl rfl rfl
  · rcases List.mem_cons.mp hy with rfl | hy
    · rfl
    · rcases List.mem_cons.mp hy with rfl | hy
      · rfl
      · cases hy
  obtain ⟨hp, g, d, tk, os⟩ := s
  have X1 : K.In h1 := X.keeps k1'
  have hx1 := k1' _ _ hx
  have xL : hp.objs.size ≠ x := Nat.ne_of_gt (Heap.lt_size hx)
  show _root_.PySem.wpAt _ _ _ (execs (eiB m j l c1 c2 l1 l2 ee1 ee2 p0 p1 p3 p5 q1 q2 q3 q4) _) _ _ ⟨h1, g, d, _, os⟩
  refine PySem.ks_wpAt_execs_cons (PySem.ks_wpAt_Expr_any (PySem.ks_wpAt_MethodCall ?_ (err_form rfl)))
  refine PySem.ks_wpAt_super_base (f := fI) (cc := cda) (by rfl) (by rfl) (by decide) rfl (X1 _ _ lk) rfl (by rfl) rfl (X1 _ _ lc) rfl hvs hfile B.top ?_
  refine PySem.W.ks_loadName_global rfl (by rfl) (PySem.Calls.loadGlobal_builtin (G.keeps k1') B.ns (hmb.keeps k1') ((hbb _ (by decide +kernel)).trans PyProof.Rows.Boot.super) ⟨rfl, ?_⟩)
  refine wpAny_loadName_free rfl (by rfl) (by rfl) ⟨_, X1 _ _ lcell, rfl⟩ ?_
  refine wpAny_loadName_local rfl (by rfl) hns (v := .ref x) (by first | rfl | with_unfolding_all rfl | kernel_rfl) ?_
  refine PySem.ks_wpAny_isType_cls (X1 _ _ hD1) hD2 ⟨rfl, ?_⟩
  refine PySem.ks_wpAny_call_super (X1 _ _ hD1) hD2 hx1 rfl (fun c z => by cases z) (PySem.W.looks_mroIn X1 T.inD) (fun h2 e2 kp2 => ?_)
  have X2 : K.In h2 := X1.keeps kp2
  have hx2 := kp2 _ _ hx1
  have hne : x ≠ C := fun z => by
    have z1 := X _ _ hC
    rw [← z, hx] at z1
    cases z1
  have hsu := T.su
  unfold PySem.W.ks_superIn at hsu
  rw [hcl] at hsu
  refine PySem.W.kxs_getMethod PySem.W.kxs_ValueError e2 (PySem.W.looks_opaque X2 B.op) (fun A Q E s k q => wpAny_bind ((PySem.W.looks_clsIn X2 hcl) A _ E s k (wpAny_pure q))) rfl X2 hsu
    ((show PySem.W.InstAt h2 x (PySem.HandSPX.excO C t0) C none from ⟨hx2, rfl, rfl, trivial⟩).type.andThen (PySem.W.looks_subIn X2 T.ve)) hne (by decide) ?_
  have kp3 : ∀ b o, h2.get? b = some o → (h2.push (PySem.W.kxs_mw "ValueError.__init__" x)).get? b = some o := fun b o z => Heap.get?_push_of_some _ z
  have hu : (h2.push (PySem.W.kxs_mw "ValueError.__init__" x)).get? h2.objs.size = some (PySem.W.kxs_mw "ValueError.__init__" x) := Heap.get?_push_at rfl rfl
  refine PySem.W.kxs_callWith (i := "ValueError.__init__") (x := x) (by rfl) (PySem.Calls.evalArgs_plain ?_)
  show wpAny _ _ (spliced ((false, eval (.Constant (.str m) j p3) _) :: backTo ⟨l, c2, l2, ee2⟩ [])) _ _ _
  refine Calls.spliced_cons (Calls.Constant_str (Calls.spliced_nil ⟨hu, ?_⟩))
  refine mw_call T (X2.keeps kp3) (kp3 _ _ hx2) hu fun h4 t1 k4 e4 => ?_
  have k24 : ∀ b o, b ≠ x → h1.get? b = some o → h4.get? b = some o := fun b o hb z => k4 b o hb (kp3 _ _ (kp2 _ _ z))
  have X4 : K.In h4 := fun b o z => k24 b o (fun y => by rw [y, hxK] at z; cases z) (X1 _ _ z)
  have hn4 := hns.at fun o z => k24 _ o xL z
  show _root_.PySem.wpAt _ _ _ (execs _ _) _ _ _
  refine PySem.ks_wpAt_execs_cons (PySem.ks_wpAt_Assign_Attr ?_)
  refine wpAt_of_wpAny (err_ev (y := "value") (v := v) hn4 (by first | rfl | with_unfolding_all rfl | kernel_rfl) ?_ rfl (by rfl) (by decide))
  refine err_ev (y := "self") (v := .ref x) hn4 (by first | rfl | with_unfolding_all rfl | kernel_rfl) ?_ rfl (by rfl) (by decide)
  refine PySem.W.set_plain X4 (ox := PySem.HandSPX.excO C t1) (od := none) ⟨e4, rfl, rfl, trivial⟩ T.sa ?_
  refine PySem.HandSPX.exc_osa X4 e4 hcl (show PySem.HandSPX.refsVE (.ref C :: bm) = true from hbm) rfl T.nv (fun h5 tk5 dx k5' dn dne hx5 hn5 => ?_)
  show _root_.PySem.wpAt _ _ _ (execs _ _) _ _ _
  refine wpAt_of_wpAny (wpAny_execs_nil ?_)
  have old : ∀ b o, b ≠ x → hp.get? b = some o → h5.get? b = some o := fun b o hb z => k5' b o hb (k24 b o hb (k1' b o z))
  have z4 : hp.objs.size < h4.objs.size := hn4.lt
  exact hq h5 _ dx t1 ⟨old, hx5, Nat.le_of_lt (Nat.lt_of_lt_of_le z4 dn), dne, hn5⟩
end
end PD

set_option Elab.async false
set_option linter.all false
set_option maxRecDepth 100000
set_option maxHeartbeats 4000000
namespace PD
open PySem PySem.Spec PyProof.Rows L2
section
variable {P : Program} {w : World} {A : Around} {s : Shared} {K : PySem.W.Frag} {mg : Str → Option Value} {C D fI : Addr}
/-- a made error -/
structure ErrNew (h h' : Heap) (e C d : Addr) (v : Value) : Prop where
  keep : ∀ b o, h.get? b = some o → h'.get? b = some o
  new : h.objs.size ≤ e
  obj : ∃ t1 : Addr, h'.get? e = some { cls := .ref C, dict := some d, data := .fields #[.ref t1, .none, .none, .none, .bool false, .none] }
  big : h.objs.size ≤ d
  ne : d ≠ e
  ns : h'.Ns1 d (fun y => if y = "value" then some v else none)
theorem err_made {R : Result → Shared → Prop} (B : ErrB P K mg D fI) (T : ErrC K C D fI) {v : Value} (X : K.In s.heap) (hlim : s.heap.NoLimit) (G : s.heap.Ns mainGlobals mg)
    (bl : ∃ mb, s.heap.Ns builtinsNs mb ∧ ∀ x : Str, x ≠ "__name__" → mb x = bootBuiltins x) (hroom : A.depth + 1 < recursionLimit)
    (hq : ∀ h' tk e d, ErrNew s.heap h' e C d v → R (.ok (.ret (.ref e))) { s with heap := h', toks := tk }) : codeAny (model P w) A (.call (.ref C) ⟨[v], []⟩) R s := by
  obtain ⟨nm, q, N, bs, bm, sn, sub, ab, col, dd, k0, k1, k2, k3, k5, hC, hbm⟩ := T.cls
  obtain ⟨hp, g, dr, tk, os⟩ := s
  have kk : ∀ b o, hp.get? b = some o → ((hp.push (PySem.W.kdv_tup [v])).push (PySem.HandSPX.excO C hp.objs.size)).get? b = some o := fun b o e => Heap.get?_push_of_some _ (Heap.get?_push_of_some _ e)
  have he : ((hp.push (PySem.W.kdv_tup [v])).push (PySem.HandSPX.excO C hp.objs.size)).get? (hp.objs.size + 1) = some (PySem.HandSPX.excO C hp.objs.size) := by heap_get
  have hnx : K.lookup (hp.objs.size + 1) = none := by
    cases z : K.lookup (hp.objs.size + 1) with
    | none => rfl
    | some o =>
      have y : hp.get? (hp.objs.size + 1) = some o := X _ _ z
      exact absurd (Nat.lt_of_succ_lt (Heap.lt_size y)) (Nat.lt_irrefl _)
  obtain ⟨mb, hmb, hbb⟩ := bl
  refine PySem.HandSPX.call_own F.excBase_ValueError (fun Y => PySem.HandSPX.refsVE_contains Y bm hbm) (X _ _ hC) (PySem.W.looks_findIn X T.ini) (fun self => PySem.W.bind_fn X self B.tf) (sized v) ?_
  refine err_init (s := ⟨(hp.push (PySem.W.kdv_tup [v])).push (PySem.HandSPX.excO C hp.objs.size), g, dr, tk, os⟩) B T (X.keeps kk) (hlim.keeps kk) (G.keeps kk) ⟨mb, hmb.keeps kk, hbb⟩ he hnx (by show A.depth + 1 < _; exact hroom) fun h' tk' dx t1 E => ?_
  have z : hp.objs.size + 1 + 1 ≤ dx := by
    have q := E.big
    first
      | (rw [Heap.size_push, Heap.size_push] at q; exact q)
      | exact q
  exact ⟨rfl, hq h' tk' (hp.objs.size + 1) dx ⟨fun b o y => E.keep b o (Nat.ne_of_lt (Nat.lt_succ_of_lt (Heap.lt_size y))) (kk b o y), Nat.le_succ _, ⟨t1, E.obj⟩, Nat.le_trans (Nat.le_trans (Nat.le_succ _) (Nat.le_succ _)) z, E.ne, E.ns⟩⟩
end
theorem relO_value {v : V} {u : Value} (r : RelV v u) (f : Str) : RelO (List.lookup f [(("value" : Str), v)]) (if f = "value" then some u else none) := by
  by_cases hf : f = "value"
  · subst hf
    rw [if_pos rfl]
    have q : List.lookup ("value" : Str) [(("value" : Str), v)] = some v := by simp [List.lookup]
    rw [q]; exact r
  · have q : (f == ("value" : Str)) = false := by simpa using hf
    have q2 : List.lookup f [(("value" : Str), v)] = none := by simp [List.lookup, q]
    rw [if_neg hf, q2]
    trivial
section
variable {X : Cx} {W : WX} {C D fI : Addr} {k : Nat} {x : Str} {a : Expr} {fa : EM} {p pos pos2 : Pos}
/-- C(e) -/
def tErr (C : Addr) (ta : TA) : L2.St → Hp → XK → Prop := fun σ H Q => ta σ H fun vs H1 => ∃ v, vs = [v] ∧ ∀ d, H1 d = none → Q (.ref C) (some d) (upd H1 d (.xd [(("value" : Str), v)]))
theorem pmk_err {ta : TA} (B : ErrB X.prog X.K X.mg D fI) (T : ErrC X.K C D fI) (hr : Room k X.A) (hm : X.mg x = some (.ref C)) (ha : PA X [a] ta) (hg : Gl X x) (hdb : (x == ("__debug__" : Str)) = false := by decide)
    (he : starEach (a :: []) X.env = (false, eval a X.env) :: starEach [] X.env := by rfl) (hpl : (backTo pos (starEach [] X.env)).any (·.1) = false := by rfl) : PMk X (.Call (.Name x p) [a] [] pos) (tErr C ta) := by
  intro pins s σ H Q I h
  refine wpAny_Call_Name_kw (ld_glob I hg hm ?_ hdb)
  refine PySem.W.callWith_K (h₀ := X.base) I.ok.mod.kin T.kC (thn (ha.run pos pins s σ H _ I h) fun us s1 hh => ?_) he hpl
  obtain ⟨vs, H1, I1, r1, v, ev, q1⟩ := hh
  subst ev
  refine ⟨I1.kIn, ?_⟩
  obtain ⟨u, rfl, rv⟩ := vals1 r1
  show wpAny _ _ (call (.ref C) [u]) _ _ _
  have hlim := I1.nolimit
  have hG := I1.ok.mod.glob.keeps I1.bk
  have hB : ∃ mb, s1.heap.Ns builtinsNs mb ∧ ∀ x : Str, x ≠ "__name__" → mb x = bootBuiltins x := by
    obtain ⟨mb, b1, b2⟩ := I1.ok.mod.blt
    exact ⟨mb, b1.keeps I1.bk, b2⟩
  obtain ⟨hp, g, dr, tk, os⟩ := s1
  refine wpAny_call (err_made B T I1.kIn hlim hG hB (by have := hr.dp; omega) fun h' tk' e d M => ?_)
  show MkP X pins σ Q (.ref e) ⟨h', g, dr, tk', os⟩
  obtain ⟨t1, hoe⟩ := M.obj
  obtain ⟨G', g1, g2⟩ := restrict h' fun b => decide (b ≠ e)
  have gk : ∀ b, b ≠ e → G'.get? b = h'.get? b := fun b hb => g1 b (decide_eq_true hb)
  have ge : G'.get? e = none := g2 e (by simp)
  have old : ∀ b o, hp.get? b = some o → G'.get? b = some o := fun b o q => by
    have hb : b ≠ e := Nat.ne_of_lt (Nat.lt_of_lt_of_le (Heap.lt_size q) M.new)
    rw [gk b hb]; exact M.keep b o q
  have ob : ObjOk X.prog X.w (upd H1 d (.xd [(("value" : Str), v)])) G' d (.xd [(("value" : Str), v)]) := ⟨_, M.ns.at (fun o q => (gk d M.ne).trans q), fun f => relO_value rv f⟩
  have J : Inv X pins σ (upd H1 d (.xd [(("value" : Str), v)])) ⟨G', g, dr, tk', os⟩ := I1.laid (t' := tk') old M.big ob
  refine ⟨e, _, _, ⟨G', g, dr, tk', os⟩, _, .ref C, some d, rfl, J, fun b o q => ?_, ge, hoe, ⟨rfl, rfl⟩, rfl, rfl, ?_, rfl, I1.bare, raises_own T.exC T.tyC, q1 d (I1.hok.fresh M.big)⟩
  · have q : G'.get? b = some o := q
    by_cases hb : b = e
    · rw [hb, ge] at q; cases q
    · rw [gk b hb] at q; exact q
  · rw [upd_ne (Ne.symm M.ne)]
    exact I1.hok.fresh M.new
/-- raise C(e) -/
def raiseS (C : Addr) (f : EM) : SM := fun ρ h => (f ρ h).st ρ fun u h1 => .exc C u ρ h1
theorem is_raise (Bd_ : Bd X W k) (B : ErrB X.prog X.K X.mg D fI) (T : ErrC X.K C D fI) (hm : X.mg x = some (.ref C)) (ha : PE X a (TEi X.K W fa)) (hg : Gl X x) (hdb : (x == ("__debug__" : Str)) = false := by decide)
    (he : starEach (a :: []) X.env = (false, eval a X.env) :: starEach [] X.env := by rfl) (hpl : (backTo pos (starEach [] X.env)).any (·.1) = false := by rfl) : PS X (.Raise (some (.Call (.Name x p) [a] [] pos)) none pos2) (TSi X.K W (raiseS C fa)) := by
  refine PS.imp (ps_raise Bd_.calm Bd_.tk (pmk_err B T Bd_.room hm (pa_cons ha pa_nil he) hg hdb he hpl)) ?_
  rintro D' σ H ⟨ρ, m, h, re, sim, q⟩
  refine ⟨ρ, m, h, re, sim, (PostS.st re q).mono (fun u h1 m1 H1 f1 s1 p1 v rv => ?_) fun _ _ _ _ _ _ _ z => z⟩
  refine ⟨v, rfl, fun d hd => ?_⟩
  have f : Fr m1 H1 m1 (upd H1 d (.xd [(("value" : Str), v)])) := Fr.new hd
  exact p1 m1 _ σ d v f (s1.new hd) ((re.step f1).step f) (at_new s1 hd) (rv.step f)
end
end PD

set_option Elab.async false
set_option linter.all false
set_option maxRecDepth 100000
set_option maxHeartbeats 4000000
namespace PD
open PySem PySem.Spec PyProof.Rows L2
/-! ### try: .. except X as n: y = n -/
section
variable {X : Cx} {pins : List (Addr × Obj)} {σ : L2.St} {H : Hp} {sI s' : Shared} {B : Heap} {a C d : Addr}
/-- back on the ground, the error tracked -/
theorem caught_inv (I : Inv X pins σ H sI) (nb : ∀ b o, sI.heap.get? b = some o → b ∉ frs X.stack → B.get? b = some o) (st : B.StaysIn s'.heap) (up : sI.heap.UpToSlots s'.heap) (os : s'.os = sI.os) (ag : AllBare s'.gens)
    (hBa : B.get? a = none) (nfr : a ∉ frs X.stack) (na : H a = none) {oe : Obj} {vs : Array Value} (he : s'.heap.get? a = some oe) (hz : Zc (.ref C) (some d) oe) (hd : oe.data = .fields vs) : Inv X pins σ (upd H a (cau a C d)) s' := by
  have ha : ∀ {b o}, sI.heap.get? b = some o → b ≠ a := fun {b o} e z => by
    subst z
    have z2 := nb b o e nfr
    rw [hBa] at z2
    cases z2
  have nf : ∀ b ∈ frs X.stack, ∀ o, sI.heap.get? b = some o → ∃ sl, s'.heap.get? b = some { o with slots := sl } := fun b hb o e => by
    obtain ⟨_, o2, e2, hdat⟩ := I.stack.mem hb
    rw [e] at e2; cases e2
    exact up b o e hdat
  have na' : ∀ {b o}, H b = some o → b ≠ a := fun {b o} e z => by rw [z, na] at e; cases e
  refine I.call' (ch := []) os ⟨fun b o e _ hb _ => st b o (nb b o e hb), fun b o e _ hb _ => nf b hb o e, fun b o e n _ => by rw [upd_ne (ha e)]; exact n, fun b o e _ => ?_, fun b xs e => by rw [upd_ne (na' e)]; exact e, fun b o u e => by rw [upd_ne (na' e)]; exact e,
    fun b ps e => ⟨#[], by rw [upd_ne (na' e), e]; simp⟩⟩ (fun b o e => ?_) ag fun _ z => nomatch z
  · by_cases hb : b ∈ frs X.stack
    · obtain ⟨sl, q⟩ := nf b hb o e
      exact ⟨_, q⟩
    · exact ⟨o, st b o (nb b o e hb)⟩
  · by_cases hb : b = a
    · subst hb
      rw [upd_same] at e
      cases e
      exact ⟨⟨oe, vs, he, hz.1, hz.2, hd⟩, ⟨oe, he⟩, fun h1 h2 ⟨o1, v1, q1, q2⟩ kk => ⟨o1, v1, kk o1 q1, q2⟩⟩
    · rw [upd_ne hb] at e
      exact ((I.inGround nb).kept st b o e).stay (fun c u _ z => z) (fun c z => by rw [upd_ne (na' z)]; exact z) fun c xs z => by rw [upd_ne (na' z)]; exact z
/-- an except suite that holds nothing but the error's name -/
theorem suite_inv (I : Inv X pins σ H sI) (a : Addr) : Inv (X.suite a (X.pn ++ pins)) [] σ H sI := ⟨I.ok.suite _ _, I.os, I.bare, I.base, I.loc, I.cell, I.free, I.freeC, fun p hp => I.pin p (by rw [List.append_nil] at hp; exact hp), I.hok, I.len⟩
theorem suite_out (I : Inv (X.suite a (X.pn ++ pins)) [] σ H sI) (ok : X.Ok) : Inv X pins σ H sI := ⟨ok, I.os, I.bare, I.base, I.loc, I.cell, I.free, I.freeC, fun p hp => I.pin p (List.mem_append_left _ hp), I.hok, I.len⟩
end
/-- the errors that are caught land in slot j; slot i is the clause's own -/
def catchS (hit : Addr → Option Bool) (i j : Nat) (b : SM) : SM := fun ρ h => match b ρ h with
  | .exc C u ρ1 h1 => match hit C with
    | some true => .fl (.nx (((ρ1.set i none).set j (some (.exc C u))).set i none)) h1
    | some false => .exc C u ρ1 h1
    | none => .bad
  | r => r
/-- what the clause wishes of an error of the body -/
def wCatch (K : PySem.W.Frag) (hit : Addr → Option Bool) (i j : Nat) (W : WX) (D : Ends) : WX := fun cls d σ H => ∃ (C : Addr) (u : U) (ρ : Env) (m : Mm) (h : IH) (v : V) (dd : Addr) (b : Bool), cls = .ref C ∧ d = some dd ∧ RE K m H ρ σ ∧ Sim K m h H ∧
  At m H dd (.xd [("value", v)]) ∧ RU K m H u v ∧ hit C = some b ∧ PostS K m H (if b = true then .fl (.nx (((ρ.set i none).set j (some (.exc C u))).set i none)) h else .exc C u ρ h) W D
theorem catch_post {K : PySem.W.Frag} {hit : Addr → Option Bool} {i j : Nat} {b : SM} {ρ : Env} {h : IH} {m : Mm} {H : Hp} {W : WX} {D : Ends} (p : PostS K m H (catchS hit i j b ρ h) W D) : PostS K m H (b ρ h) (wCatch K hit i j W D) D := by
  unfold catchS at p
  cases q : b ρ h with
  | fl g h1 =>
    rw [q] at p
    cases g with
    | nx ρ1 => exact p
    | rt u => exact p
    | bk ρ1 => exact p
    | ct ρ1 => exact p
  | bad => rw [q] at p; exact p
  | exc C u ρ1 h1 =>
    rw [q] at p
    intro m1 H1 σ1 d v f1 s1 r1 a1 ru
    dsimp only at p
    cases hc : hit C with
    | none => rw [hc] at p; exact False.elim p
    | some bb =>
      rw [hc] at p
      refine ⟨C, u, ρ1, m1, h1, v, d, bb, rfl, rfl, r1, s1, a1, ru, hc, ?_⟩
      cases bb with
      | true => exact p.go f1
      | false => exact p.go f1
section
variable {X : Cx} {W : WX} {k i j : Nat} {x n y : Str} {c : Value} {body : List Stmt} {np py pn2 ps pos pos' : Pos} {b : SM} {hit : Addr → Option Bool}
theorem is_catch (B_ : Bd X W k) (hs : X.stack = X.env :: X.outer) (hf : X.env.frame = some X.env.locals) (hN : X.N.Nodup) (hi : X.N[i]? = some n) (hj : X.N[j]? = some y) (hij : i ≠ j) (hln : X.env.kindOf n = some .local) (hly : X.env.kindOf y = some .local) (hc : Names X x c)
    (hh : ∀ C b, hit C = some b → PySem.W.exmOne X.K (.ref C) c = some b) (hb : ∀ (W' : WX) (pn : List (Addr × Obj)) (xe : Value → Shared → Prop), Bd (X.tr pn xe) W' k → PSs (X.tr pn xe) body (TSi X.K W' b))
    (hdn : (n == ("__debug__" : Str)) = false := by decide) (hcn : (n == ("__classdict__" : Str)) = false := by decide)
    (hsw : ∀ a pn, swapsWith (.Name n pn2) (some (.Name y py)) ps.line (X.suite a pn).env = pure false := by intro _ _; rfl) :
    PS X (.Try body [.ExceptHandler (some (.Name x np)) (some n) [.Assign [.Name y py] (.Name n pn2) ps] pos'] [] [] pos) (TSi X.K W (catchS hit i j b)) := by
  refine ⟨fun pins s σ H D I h => ?_⟩
  have ok := I.ok
  have hfr : X.A.frames = some (X.env :: X.outer) := by rw [ok.frames, hs]
  have hloc : Loc X.env.scope n := .inl hln
  obtain ⟨ρ0, m0, h0, re0, sim0, p0⟩ := h
  refine wpAny_Try_except ?_
  refine wpAny_mono ((hb (wCatch X.K hit i j W D) (X.pn ++ pins) (fun e s1 => wpAny (model X.prog X.w) X.A (noteFrame e X.env) (fun _ s2 => wpAny (model X.prog X.w) X.A (setFlight e none) (fun _ s3 =>
    wpAny (model X.prog X.w) X.A (handleBy e X.env [.ExceptHandler (some (.Name x np)) (some n) [.Assign [.Name y py] (.Name n pn2) ps] pos']) (SP X pins D) X.xe s3) X.xe s2) X.xe s1)
    (B_.try_ (fun u s1 xx => ?_) PassesOwn.looking)).run [] s σ H D (I.toTry _) ⟨ρ0, m0, h0, re0, sim0, catch_post p0⟩) (fun f s1 hsp => ?_) (fun e s1 he => he)
  · obtain ⟨a, BB, sI, pins2, σ2, H2, cls, d0, rfl, J0, nb, up, sky, na, os, ag, C, u, ρ, m, hh2, v, d, bb, rfl, rfl, re, sim, atd, ru, hb1, post⟩ := xx
    have J : Inv X pins σ2 H2 sI := J0.ofTry ok
    have sky2 : Sky BB (X.env :: X.outer) a (Zc (.ref C) (some d)) X.env.locals s1.heap := by rw [← hs]; exact sky
    show wpAny (model X.prog X.w) X.A (noteFrame (.ref a) X.env) _ _ _
    refine Sky.land Zc.steady hfr hf sky2 fun h3 fl3 up3 => ?_
    have J3 : Inv X pins σ2 H2 { s1 with heap := h3 } := J.landed nb fl3.1 (up.trans up3) os ag
    obtain ⟨oe3, vs3, he3, hz3, hd3⟩ := fl3.there
    have nfr : a ∉ frs X.stack := fun hm => by
      rw [hs] at hm
      obtain ⟨_, o2, e2, hnf⟩ := fl3.2.2.1.mem hm
      rw [he3] at e2; cases e2
      exact hnf _ hd3
    have S3 := suite_inv J3 a
    refine wpAny_handleBy_cons (codeAny_handlers_test ?_) (by intro q; cases q)
    have LT : PySem.W.Looks (model X.prog X.w) h3 (typeOf (.ref a)) (.ref C) := fun A Q E s kk q => wpAny_typeOf_ref (kk _ _ he3) (by rw [hz3.1]; exact q)
    have LM := PySem.W.exm_one (M := model X.prog X.w) J3.kIn LT (hh C bb hb1)
    have test : ∀ {Q : Value → Shared → Prop} {E : Value → Shared → Prop}, Q c { s1 with heap := h3 } → wpAny (model X.prog X.w) (X.A.mark (some (.ref a))) (eval (.Name x np) X.env) Q E { s1 with heap := h3 } := fun {Q E} q => by
      obtain ⟨hg, hdbg, hm | ⟨hm, hv, hnn⟩⟩ := hc
      · exact ld_glob (X := X.suite a (X.pn ++ pins)) S3 hg hm q hdbg
      · exact ld_blt (X := X.suite a (X.pn ++ pins)) S3 hg hm hv q hnn hdbg
    refine test (LM.here ?_)
    cases bb with
    | true =>
      refine codeAny_handlers_suite_as (HandSPX.lands_againZ fl3 fun h4 fl4 up4 => ?_)
      obtain ⟨oe4, vs4, he4, hz4, hd4⟩ := fl4.there
      have J4 : Inv X pins σ2 (upd H2 a (cau a C d)) { s1 with heap := h4 } := caught_inv J nb fl4.1 ((up.trans up3).trans up4) os ag fl4.2.1 nfr na he4 hz4 hd4
      have fN : Fr m H2 m (upd H2 a (cau a C d)) := Fr.new na
      have ata : At m (upd H2 a (cau a C d)) a (cau a C d) := at_new sim na
      have S4 := suite_inv J4 a
      refine store_ok (X := X.suite a (X.pn ++ pins)) (v := .ref a) S4 hN hi hloc rfl (fun s5 S5 => ?_) (.inr hln)
      have li : i < σ2.length := by rw [J.len]; exact (List.getElem?_eq_some_iff.mp hi).1
      have hset : PS (X.suite a (X.pn ++ pins)) (.Assign [.Name y py] (.Name n pn2) ps) (tAsg (tVar i) (gName j)) := ps_set hN hj (.inl hly) (pe_var hi (.inl hln) hdn hcn) (hsw _ _) (.inr hly)
      have e1 : (σ2.set i (some (V.ref a)))[i]? = some (some (V.ref a)) := List.getElem?_set_self li
      refine wpAny_mono ((pss_one hset).run [] s5 _ _ { nx := fun σ6 H6 => σ6 = (σ2.set i (some (V.ref a))).set j (some (V.ref a)) ∧ H6 = upd H2 a (cau a C d), rt := fun _ _ => False } S5 ⟨V.ref a, e1, rfl, rfl⟩) (fun f s6 hsp => ?_) (fun _ _ z => False.elim z)
      cases f with
      | next =>
        obtain ⟨σ6, H6, S6, rfl, rfl⟩ := hsp
        refine gone_ok (suite_out S6 ok) hN hi hln fun s7 J7 => ⟨_, _, J7, ?_⟩
        have re2 : RE X.K m (upd H2 a (cau a C d)) (((ρ.set i none).set j (some (.exc C u))).set i none) (((σ2.set i (some (V.ref a))).set j (some (V.ref a))).set i none) := by
          have r0 := re.step fN
          refine (RE.set (u := .exc C u) ?_ j ⟨a, d, v, rfl, ata, fN.w.at_ atd, ru.step fN⟩).unset i
          refine ⟨by simp [r0.len], fun l w e => ?_⟩
          by_cases hl : i = l
          · subst hl
            by_cases hlt : i < ρ.length
            · rw [List.getElem?_set_self hlt] at e; cases e
            · rw [List.getElem?_eq_none (by simpa using hlt)] at e; cases e
          · rw [List.getElem?_set_ne hl] at e
            obtain ⟨w2, q1, q2⟩ := r0.at_ l w e
            exact ⟨w2, by rw [List.getElem?_set_ne hl]; exact q1, q2⟩
        exact post m _ _ fN (sim.new na) re2
      | ret v => obtain ⟨_, _, _, _, _, q⟩ := hsp; exact q.elim
      | brk => obtain ⟨_, _, _, q⟩ := hsp; exact q.elim
      | cont => obtain ⟨_, _, _, q⟩ := hsp; exact q.elim
    | false =>
      show wpAny _ X.A (handleBy (.ref a) X.env []) _ _ _
      refine wpAny_handleBy_nil ?_
      obtain ⟨k1, k2, k3, oe, vs, T, oT, ts, he, hz, hd, h1, hr⟩ := id fl3
      unfold PySem.passOn
      refine wpAny_bind (wpAny_field he hd h1 ?_)
      rw [if_neg (show ¬ ((Value.ref T == Value.none) = true) from by simp)]
      have fin : wpAny (model X.prog X.w) X.A (setFlight (.ref a) X.env.frame) (fun _ s4 => wpAny (model X.prog X.w) X.A (throw (.ref a) : Sem Flow) (SP X pins D) X.xe s4) X.xe { s1 with heap := h3 } := by
        rw [hf]
        refine HandSPX.setFlight_upZ fl3 fun h4 hh4 up4 => wpAny_throw (B_.tk _ _ ?_)
        exact ⟨a, BB, sI, pins, σ2, H2, .ref C, some d, rfl, J, nb, (up.trans up3).trans up4, .inr (.inr (by rw [hs]; exact hh4)), na, os, ag, post m H2 σ2 d v Fr.refl sim re atd ru⟩
      first
        | exact wpAny_bind (wpAny_pure (wpAny_bind fin))
        | exact wpAny_bind fin
  · cases f with
    | next =>
      obtain ⟨σ2, H2, J2, q⟩ := hsp
      exact wpAny_execs_nil ⟨σ2, H2, J2.ofTry ok, q⟩
    | brk =>
      obtain ⟨σ2, H2, J2, q⟩ := hsp
      exact ⟨σ2, H2, J2.ofTry ok, q⟩
    | cont =>
      obtain ⟨σ2, H2, J2, q⟩ := hsp
      exact ⟨σ2, H2, J2.ofTry ok, q⟩
    | ret u =>
      obtain ⟨v, σ2, H2, J2, r, q⟩ := hsp
      exact ⟨v, σ2, H2, J2.ofTry ok, r, q⟩
end
end PD

set_option Elab.async false
set_option linter.all false
set_option maxRecDepth 100000
set_option maxHeartbeats 4000000
namespace PD
open PySem PySem.Spec PyProof.Rows L2
/-! ### a caught error: its class, its value -/
section
variable {prog : Program} {w : World} {A : Around} {E : Value → Shared → Prop} {s : Shared} {K : PySem.W.Frag} {x D : Addr} {ox ob : Obj}
theorem exd_class {Q : Option Value → Shared → Prop} (Y : ExcC K D) (X : K.In s.heap) (I : PySem.W.InstAt s.heap x ox D (some ob)) (h : Q (some (.ref D)) { s with toks := s.toks + 1 }) : wpAny (model prog w) A (getAttr? (.ref x) "__class__") Q E s := by
  have hf : PySem.W.findObj K D (some ob) "__class__" = some (.bind (.builtin "getset_descriptor.__get__") (.builtin "object.__class__")) := by
    have hd := Y.hd
    unfold PySem.W.hasDictIn at hd
    cases hc : PySem.W.clsIn K D with
    | none => rw [hc] at hd; exact absurd hd (by simp)
    | some cd =>
      unfold PySem.W.findObj
      rw [hc, Option.bind_some, Y.ha, Option.bind_some]
      simp [Y.hn, Y.ht]
  obtain ⟨hp, g, d, t, os⟩ := s
  have T0 := I.type (M := model prog w)
  have T1 := PySem.W.looks_findIn (M := model prog w) X Y.hg
  have T2 := PySem.W.looks_findIn (M := model prog w) X Y.hk
  have T3 := PySem.W.looks_find (M := model prog w) X I hf
  have isB : PySem.W.Looks (model prog w) hp (isInstance (.ref x) (.type "BaseException")) true := T0.andThen (PySem.W.looks_subIn X Y.hs)
  have nb : (Value.builtin "BaseException.__getattribute__" == Value.builtin "object.__getattribute__") = false := by decide +kernel
  have nb2 : (onTheHeap (Value.ref D) && Value.builtin "BaseException.__getattribute__" == Value.builtin "object.__getattribute__") = false := by rw [nb]; rfl
  have nb3 : (false && onTheHeap (Value.builtin "BaseException.__getattribute__")) = false := rfl
  unfold getAttr? getAttrBy? getAttrBy
  refine wpAny_bind (wpAny_mkText (wpAny_bind (wpAny_attempt (wpAny_holding (wpAny_bind (T0.at (wpAny_bind (T1.at ?_))))))))
  show wpAny _ _ (if (onTheHeap (Value.ref D) && Value.builtin "BaseException.__getattribute__" == Value.builtin "object.__getattribute__") = true then _ else _) _ _ _
  rw [nb2, if_neg Bool.false_ne_true]
  unfold getAttrByItsOwn hookBefore
  refine wpAny_bind ?_
  rw [if_pos (by rfl : onTheHeap (Value.ref D) = true)]
  refine T2.at (wpAny_bind (wpAny_attempt (wpAny_holding ?_)))
  unfold callGetattribute
  rw [nb3, if_neg Bool.false_ne_true]
  unfold boundAndCalled
  rw [PySem.F.excAttr_ValueError.ga.bind (.ref x)]
  refine wpAny_bind (wpAny_pure (show wpAny _ _ (call (.builtin "BaseException.__getattribute__") [.ref x, .str "__class__" t]) _ _ _ from ?_))
  refine wpAny_call (codeAny_call_builtin PySem.F.excAttr_ValueError.ga.plain PySem.F.entry_bexc_ga (@PySem.W.check_slot (model prog w) _ _ ⟨hp, g, d, t + 1, os⟩ "BaseException.__getattribute__" "BaseException" "__getattribute__" (.ref x) [.str "__class__" t] [] _
    (by decide +kernel) (by decide +kernel) isB (PySem.F.args_bexc_ga (.ref x) (.str "__class__" t)) ?_))
  unfold Builtin.«object.__getattribute__»
  refine wpAny_bind (wpAny_of_eq (a := ((Value.ref x : Value), [Value.str "__class__" t])) (by first | rfl | (simp only [slotArgs]; rfl)) (wpAny_bind (wpAny_pure (wpAny_bind (T0.at (wpAny_bind (T3.at ?_)))))))
  show wpAny _ _ (holding [Value.builtin "object.__class__"] (call (.builtin "getset_descriptor.__get__") [.builtin "object.__class__", .ref x, .ref D]) >>= ret) _ _ _
  refine wpAny_bind (wpAny_holding (wpAny_call (PySem.W.class_get (s := ⟨hp, g, d, t + 1, os⟩) X I Y.hm (wpAny_pure ?_))))
  show wpAny _ _ (handedOut (.ref D)) _ _ _
  rw [PySem.W.handedOut_of (v := .ref D) rfl]
  first
    | exact wpAny_pure (wpAny_pure h)
    | exact wpAny_pure h
    | exact wpAny_pure (wpAny_bind (wpAny_pure (wpAny_pure h)))
theorem exd_kit (Y : ExcC K D) : PySem.W.KitX K (.ref x) (.ref D) (fun h => ∃ ox ob, PySem.W.InstAt h x ox D (some ob)) where
  ty := fun _ _ _ ⟨_, _, I⟩ => I.type
  it := fun _ _ X _ => by
    have hd := Y.hd
    unfold PySem.W.hasDictIn PySem.W.clsIn at hd
    split at hd
    · rename_i c1 c2 c3 c4 ho
      intro A Q E s kk q
      unfold isType loadHead
      exact wpAny_bind (wpAny_loadPart (kk _ _ (X _ _ ho)) (wpAny_pure q))
    · exact absurd hd (by simp)
  ne := fun h tp dd its n sl X htp => by
    refine Bool.eq_false_iff.mpr fun q => ?_
    have e : D = tp := Value.ref.inj (beq_iff_eq.mp q)
    subst e
    have hd := Y.hd
    unfold PySem.W.hasDictIn PySem.W.clsIn at hd
    split at hd
    · rename_i c1 c2 c3 c4 ho
      have z := (X _ _ ho).symm.trans htp
      cases z
    · exact absurd hd (by simp)
  ca := fun X ⟨_, _, I⟩ q => exd_class Y X I q
end
section
variable {X : Cx} {W : WX} {a : Expr} {fa : EM} {p pos : Pos} {x n : Str}
/-- where a caught error stands -/
theorem cau_inst {H : Hp} {h : Heap} {e C d : Addr} {fs : List (Str × V)} (hok : HOk X.prog X.w H h) (ha : H e = some (cau e C d)) (hd : H d = some (.xd fs)) : ∃ ox ob mA, PySem.W.InstAt h e ox C (some ob) ∧ h.Ns1 d mA ∧ (∀ f, RelO (fs.lookup f) (mA f)) ∧ h.get? d = some ob := by
  obtain ⟨⟨o, vs, e1, e2, e3, e4⟩, _⟩ := (show ObjOk X.prog X.w H h e (.ext _) from hok e _ ha)
  obtain ⟨mA, hns, hr⟩ := (show ObjOk X.prog X.w H h d (.xd fs) from hok d _ hd)
  obtain ⟨ob, es, ep, ho, hq⟩ := id hns
  exact ⟨o, ob, mA, ⟨e1, e2, by unfold PySem.W.notCls; rw [e4] <;> rfl, by rw [e3]; exact ho⟩, hns, hr, ho⟩
def rIsX (K : PySem.W.Frag) : List V → Hp → VK → Prop := fun xs H Q => ∃ (e C d C2 : Addr) (y : V) (b : Bool), xs = [.ref e, .ref C2] ∧ H e = some (cau e C d) ∧ H d = some (.xd [("value", y)]) ∧ ExcC K C ∧ PySem.W.kitOne K (.ref C) (.ref C2) = some b ∧ Q (.bl b) H
theorem call_isX : CallR X (.builtin "isinstance") (rIsX X.K) := by
  rintro pins s σ H xs us Q I r ⟨e, C, d, C2, y, b, rfl, h1, h2, Y, hk, q⟩
  obtain ⟨u1, u2, rfl, r1, r2⟩ := vals2 r
  cases (show u1 = Value.ref e from r1)
  cases (show u2 = Value.ref C2 from r2)
  obtain ⟨ox, ob, mA, J, _⟩ := cau_inst (X := X) I.hok h1 h2
  exact PySem.W.kia_one (exd_kit Y) I.kIn ⟨ox, ob, J⟩ hk (fun z => nomatch z) fun tk => ⟨.bl b, H, I.tok tk, rfl, q⟩
/-- isinstance(e, X) of a caught error, or of None -/
def isxU (hit : Addr → Option Bool) (x : U) (h : IH) : R U := match x with
  | .exc C _ => match hit C with
    | some b => .ok (.bl b) h
    | none => .bad
  | .non => .ok (.bl false) h
  | _ => .bad
theorem ie_isx {C2 : Addr} {hit : Addr → Option Bool} {xT : Str} {pT : Pos} (hg : Gl X "isinstance") (hm : X.mg "isinstance" = none) (hgT : Gl X xT) (hmT : X.mg xT = some (.ref C2)) (ha : PE X a (TEi X.K W fa))
    (hh : ∀ C b, hit C = some b → ExcC X.K C ∧ PySem.W.kitOne X.K (.ref C) (.ref C2) = some b) (hN : PySem.W.kitOne X.K (.type "NoneType") (.ref C2) = some false) (hdT : (xT == ("__debug__" : Str)) = false := by decide)
    (he : starEach [a, .Name xT pT] X.env = (false, eval a X.env) :: starEach [.Name xT pT] X.env := by rfl) (he2 : starEach [.Name xT pT] X.env = (false, eval (.Name xT pT) X.env) :: starEach [] X.env := by rfl) (hpl : (backTo pos (starEach [.Name xT pT] X.env)).any (·.1) = false := by rfl) :
    PE X (.Call (.Name "isinstance" p) [a, .Name xT pT] [] pos) (TEi X.K W (un (isxU hit) fa)) := by
  refine PE.imp (pe_callB (call_isX.or call_isi) hg hm (by decide +kernel) (pa_cons ha (pa_cons (pe_glob (v := .ref C2) hgT hmT rfl hdT) pa_nil he2) he) (by decide) (by decide) he hpl) ?_
  rintro σ H Q ⟨ρ, m, h, re, sim, q⟩
  refine ⟨ρ, m, h, re, sim, q.bind.mono (fun x h1 m1 H1 f1 s1 p1 v rv => ?_) fun _ _ _ _ _ _ _ z => z⟩
  cases x with
  | exc C u =>
    obtain ⟨e, d, y, rfl, a1, a2, ru⟩ := rv
    unfold isxU at p1
    dsimp only at p1
    cases hc : hit C with
    | none => rw [hc] at p1; exact False.elim p1
    | some b =>
      rw [hc] at p1
      obtain ⟨Y, hk⟩ := hh C b hc
      exact .inl ⟨e, C, d, C2, y, b, rfl, a1.h, a2.h, Y, hk, p1.here s1 _ rfl⟩
  | non =>
    have rv : v = .non := rv
    subst rv
    exact .inr ⟨.non, .ref C2, .type "NoneType", .ref C2, false, rfl, .own C2, .base .non, hN, p1.here s1 _ rfl⟩
  | _ => exact False.elim p1
/-- e.value of a caught error -/
def valU (ok : Addr → Bool) (x : U) (h : IH) : R U := match x with
  | .exc C u => if ok C = true then .ok u h else .bad
  | _ => .bad
theorem ie_value {ok : Addr → Bool} (T : ∀ C : Addr, ok C = true → XfC X.K C ∧ PySem.W.findIn X.K (.ref C) "value" = some none) (ha : PE X a (TEi X.K W fa)) (hb : attributeBase a "value" X.env (eval a X.env) = eval a X.env := by rfl) :
    PE X (.Attribute a "value" pos) (TEi X.K W (un (valU ok) fa)) := by
  refine ⟨fun pins s σ H Q I q => ?_⟩
  obtain ⟨ρ, m, h, re, sim, pp⟩ := q
  refine attr_of hb (thn (ha.run pins s σ H (fun v H1 => ∃ (e C d : Addr) (y : V), v = .ref e ∧ H1 e = some (cau e C d) ∧ H1 d = some (.xd [("value", y)]) ∧ ok C = true ∧ Q y H1) I ⟨ρ, m, h, re, sim, pp.bind.mono (fun x h1 m1 H1 f1 s1 p1 v rv => ?_) fun _ _ _ _ _ _ _ z => z⟩) fun u s1 hh => ?_)
  · cases x with
    | exc C u =>
      obtain ⟨e, d, y, rfl, a1, a2, ru⟩ := rv
      unfold valU at p1
      dsimp only at p1
      split at p1
      · rename_i hc
        exact ⟨e, C, d, y, rfl, a1.h, a2.h, hc, p1.here s1 y ru⟩
      · exact False.elim p1
    | _ => exact False.elim p1
  · obtain ⟨v, H1, I1, rv, e, C, d, y, rfl, h1, h2, hc, qy⟩ := hh
    cases (show u = Value.ref e from rv)
    obtain ⟨T1, T2⟩ := T C hc
    obtain ⟨ox, ob, mA, J, hns, hr, ho⟩ := cau_inst (X := X) I1.hok h1 h2
    obtain ⟨od, ho2, hl⟩ := lookIn_ns hns
    rw [ho] at ho2
    cases ho2
    have l : List.lookup ("value" : Str) [(("value" : Str), y)] = some y := by simp [List.lookup]
    obtain ⟨u2, hu, ru⟩ := RelO.some_of (v := y) (o := mA "value") (by rw [← l]; exact hr "value")
    exact HandSPX.exc_get I1.kIn J T1.ga T1.gg T1.exC (PySem.W.findObj_own T1.hdC T2 rfl (by rw [hl, hu])) (handed_of ru) ⟨y, H1, I1.tok _, ru, qy⟩
end
end PD

set_option Elab.async false
set_option linter.all false
set_option maxRecDepth 100000
set_option maxHeartbeats 4000000
namespace PD
open PySem PySem.Spec PyProof.Rows L2
/-! ### methods of lists -/
def lstAt (h : IH) : U → Option (Nat × List U)
  | .ref n => match h[n]? with
    | some (.lst xs) => some (n, xs)
    | _ => none
  | _ => none
theorem lstAt_ok {K : PySem.W.Frag} {m : Mm} {h : IH} {H : Hp} (s : Sim K m h H) {u : U} {v : V} {n : Nat} {xs : List U} (e : lstAt h u = some (n, xs)) (r : RU K m H u v) :
    ∃ a ys, v = .ref a ∧ m.o[n]? = some a ∧ H a = some (.lst ys) ∧ RUs K m H xs ys := by
  cases u with
  | ref k =>
    obtain ⟨a, rfl, q⟩ := r
    unfold lstAt at e
    dsimp only at e
    cases hh : h[k]? with
    | none => rw [hh] at e; cases e
    | some o =>
      rw [hh] at e
      cases o with
      | lst zs =>
        cases e
        obtain ⟨ys, e2, r2⟩ := s.lst hh q
        exact ⟨a, ys, rfl, q, e2, r2⟩
      | _ => cases e
  | _ => cases e
def bmE (o : U → List U → IH → R U) (f : EM) (g : AM) : EM := fun ρ h => (f ρ h).bind fun x h1 => if (lstAt h1 x).isSome = true then (g ρ h1).bind fun xs h2 => o x xs h2 else .bad
def bmE0 (o : U → List U → IH → R U) (f : EM) : EM := fun ρ h => (f ρ h).bind fun x h1 => if (lstAt h1 x).isSome = true then o x [] h1 else .bad
def MtS (K : PySem.W.Frag) (o : U → List U → IH → R U) (r : V → List V → Hp → VK → Prop) : Prop := ∀ (m : Mm) (h : IH) (H : Hp) (x : U) (vx : V) (xs : List U) (vs : List V) (Q : VK), Sim K m h H → RU K m H x vx → RUs K m H xs vs → Post K m H (o x xs h) (QU K Q) noW → r vx vs H Q
section
variable {X : Cx} {W : WX} {a e : Expr} {es : List Expr} {fa : EM} {fs : AM} {o : U → List U → IH → R U} {r : V → List V → Hp → VK → Prop} {name : Str} {id : String} {apos cpos : Pos}
theorem tyV_lst {K : PySem.W.Frag} {m : Mm} {h : IH} {H : Hp} (s : Sim K m h H) {u : U} {v : V} (e : (lstAt h u).isSome = true) (ru : RU K m H u v) : tyV K "list" v H := by
  obtain ⟨⟨n, xs⟩, e⟩ := Option.isSome_iff_exists.mp e
  obtain ⟨a, ys, rfl, _, h1, _⟩ := lstAt_ok s e ru
  exact .inl ⟨rfl, ys, SqL.of h1⟩
theorem ie_bm (slot : Slot "list" name id) (hty : typeOf (.builtin id) = pure (.type "method_descriptor")) (hm : MtR X id r) (hn : ∀ x xs h C u h', o x xs h ≠ .exc C u h') (hS : MtS X.K o r) (ha : PE X a (TEi X.K W fa)) (hes : PA X (e :: es) (TAi X.K W fs))
    (hbase : attributeBase a name X.env (eval a X.env) = eval a X.env := by rfl)
    (hfew : ((backTo cpos (starEach (e :: es) X.env)).all (fun x => !x.1) && (backToKw cpos (keywordEach [] X.env)).all (fun x => x.1.isSome) && decide ((e :: es).length + ([] : List Keyword).length + (if ([] : List Keyword).isEmpty then 0 else 1) < 30)) = true := by rfl)
    (hline : (apos.endLine == cpos.line) = true := by rfl) (hs : starEach (e :: es) X.env = (false, eval e X.env) :: starEach es X.env := by rfl) (hplain : (backTo cpos (starEach es X.env)).any (·.1) = false := by rfl) :
    PE X (.Call (.Attribute a name apos) (e :: es) [] cpos) (TEi X.K W (bmE o fa fs)) := by
  refine PE.imp (pe_bm PySem.F.plainAttrs_list slot hty hm ha hes hbase hfew hline hs hplain) ?_
  rintro σ H Q ⟨ρ, m, h, re, sim, p⟩
  refine ⟨ρ, m, h, re, sim, p.bind.mono (fun x h1 m1 H1 f1 s1 p1 v rv => ?_) fun _ _ _ _ _ _ _ z => z⟩
  split at p1
  · rename_i hc
    exact ⟨tyV_lst s1 hc rv, ρ, m1, h1, re.step f1, s1, p1.bind.mono (fun xs h2 m2 H2 f2 s2 p2 vs rvs => hS m2 h2 H2 x v xs vs Q s2 (rv.step f2) rvs (p2.noW (hn _ _ _))) fun _ _ _ _ _ _ _ z => z⟩
  · exact False.elim p1
theorem ie_bm0 (slot : Slot "list" name id) (hty : typeOf (.builtin id) = pure (.type "method_descriptor")) (hm : MtR X id r) (hn : ∀ x xs h C u h', o x xs h ≠ .exc C u h') (hS : MtS X.K o r) (ha : PE X a (TEi X.K W fa))
    (hbase : attributeBase a name X.env (eval a X.env) = eval a X.env := by rfl) (hline : (apos.endLine == cpos.line) = true := by rfl) : PE X (.Call (.Attribute a name apos) [] [] cpos) (TEi X.K W (bmE0 o fa)) := by
  refine PE.imp (pe_bm0 PySem.F.plainAttrs_list slot hty hm ha hbase hline) ?_
  rintro σ H Q ⟨ρ, m, h, re, sim, p⟩
  refine ⟨ρ, m, h, re, sim, p.bind.mono (fun x h1 m1 H1 f1 s1 p1 v rv => ?_) fun _ _ _ _ _ _ _ z => z⟩
  split at p1
  · rename_i hc
    exact ⟨tyV_lst s1 hc rv, hS m1 h1 H1 x v [] [] Q s1 rv RUs.nil (p1.noW (hn _ _ _))⟩
  · exact False.elim p1
def appU (x : U) (ys : List U) (h : IH) : R U := match lstAt h x, ys with
  | some (n, xs), [y] => if xs.length < sizeLine then .ok .non (h.set n (.lst (xs ++ [y]))) else .bad
  | _, _ => .bad
theorem ie_append (ha : PE X a (TEi X.K W fa)) (hes : PA X [e] (TAi X.K W fs)) (hbase : attributeBase a "append" X.env (eval a X.env) = eval a X.env := by rfl)
    (hfew : ((backTo cpos (starEach [e] X.env)).all (fun x => !x.1) && (backToKw cpos (keywordEach [] X.env)).all (fun x => x.1.isSome) && decide (([e] : List Expr).length + ([] : List Keyword).length + (if ([] : List Keyword).isEmpty then 0 else 1) < 30)) = true := by rfl)
    (hline : (apos.endLine == cpos.line) = true := by rfl) (hs : starEach [e] X.env = (false, eval e X.env) :: starEach [] X.env := by rfl) (hplain : (backTo cpos (starEach [] X.env)).any (·.1) = false := by rfl) :
    PE X (.Call (.Attribute a "append" apos) [e] [] cpos) (TEi X.K W (bmE appU fa fs)) := by
  refine ie_bm PySem.F.slot_list_append PySem.F.type_list_append (r := rAppend) mt_append (fun x xs h C u h' => ?_) ?_ ha hes hbase hfew hline hs hplain
  · unfold appU
    split
    · split <;> (intro z; cases z)
    · intro z; cases z
  · intro m h H x vx xs vs Q s rx rxs p
    unfold appU at p
    split at p
    · rename_i n zs y hl
      obtain ⟨a, ys, rfl, hn, h1, r1⟩ := lstAt_ok s hl rx
      obtain ⟨v, t, rfl, r2, r3⟩ := rxs
      have r3 : t = [] := r3
      subst r3
      split at p
      · rename_i hz
        refine ⟨a, ys, v, rfl, rfl, h1, by rw [← r1.length]; exact hz, ?_⟩
        exact p m _ (Fr.put (List.mem_of_getElem? hn)) (s.put hn ⟨_, rfl, r1.append (RUs.cons r2 RUs.nil)⟩) .non rfl
      · exact False.elim p
    · exact False.elim p
/-- pop() -/
def popU (x : U) (ys : List U) (h : IH) : R U := match lstAt h x, ys with
  | some (n, xs), [] => match xs[xs.length - 1]? with
    | some y => .ok y (h.set n (.lst xs.dropLast))
    | none => .bad
  | _, _ => .bad
theorem ie_pop (ha : PE X a (TEi X.K W fa)) (hbase : attributeBase a "pop" X.env (eval a X.env) = eval a X.env := by rfl) (hline : (apos.endLine == cpos.line) = true := by rfl) : PE X (.Call (.Attribute a "pop" apos) [] [] cpos) (TEi X.K W (bmE0 popU fa)) := by
  refine ie_bm0 PySem.F.slot_list_pop PySem.F.type_list_pop (r := rPop) mt_pop (fun x xs h C u h' => ?_) ?_ ha hbase hline
  · unfold popU
    split
    · split <;> (intro z; cases z)
    · intro z; cases z
  · intro m h H x vx xs vs Q s rx rxs p
    unfold popU at p
    split at p
    · rename_i n zs hl
      obtain ⟨a, ys, rfl, hn, h1, r1⟩ := lstAt_ok s hl rx
      have r3 : vs = [] := rxs
      subst r3
      split at p
      · rename_i y hy
        obtain ⟨v, hv, rv⟩ := r1.get hy
        have f : Fr m H m (upd H a (.lst ys.dropLast)) := Fr.put (List.mem_of_getElem? hn)
        refine ⟨a, ys, v, rfl, rfl, h1, by rw [← r1.length]; exact hv, ?_⟩
        exact p m _ f (s.put hn ⟨_, rfl, r1.dropLast⟩) v (rv.step f)
      · exact False.elim p
    · exact False.elim p
/-- pop(i) -/
def popAtU (x : U) (ys : List U) (h : IH) : R U := match lstAt h x, ys with
  | some (n, xs), [.int i] => if -(2 ^ 63) ≤ i ∧ i < 2 ^ 63 then match seqIndex? i xs.length with
      | some k => match xs[k]? with
        | some y => .ok y (h.set n (.lst (xs.eraseIdx k)))
        | none => .bad
      | none => .bad
    else .bad
  | _, _ => .bad
theorem ie_popAt (ha : PE X a (TEi X.K W fa)) (hes : PA X [e] (TAi X.K W fs)) (hbase : attributeBase a "pop" X.env (eval a X.env) = eval a X.env := by rfl)
    (hfew : ((backTo cpos (starEach [e] X.env)).all (fun x => !x.1) && (backToKw cpos (keywordEach [] X.env)).all (fun x => x.1.isSome) && decide (([e] : List Expr).length + ([] : List Keyword).length + (if ([] : List Keyword).isEmpty then 0 else 1) < 30)) = true := by rfl)
    (hline : (apos.endLine == cpos.line) = true := by rfl) (hs : starEach [e] X.env = (false, eval e X.env) :: starEach [] X.env := by rfl) (hplain : (backTo cpos (starEach [] X.env)).any (·.1) = false := by rfl) :
    PE X (.Call (.Attribute a "pop" apos) [e] [] cpos) (TEi X.K W (bmE popAtU fa fs)) := by
  refine ie_bm PySem.F.slot_list_pop PySem.F.type_list_pop (r := rPopAt) mt_popAt (fun x xs h C u h' => ?_) ?_ ha hes hbase hfew hline hs hplain
  · unfold popAtU
    split
    · split
      · split
        · split <;> (intro z; cases z)
        · intro z; cases z
      · intro z; cases z
    · intro z; cases z
  · intro m h H x vx xs vs Q s rx rxs p
    unfold popAtU at p
    split at p
    · rename_i n zs i hl
      obtain ⟨a, ys, rfl, hn, h1, r1⟩ := lstAt_ok s hl rx
      obtain ⟨v, t, rfl, r2, r3⟩ := rxs
      have r3 : t = [] := r3
      have r2 : v = .int i := r2
      subst r3 r2
      split at p
      · rename_i hb
        split at p
        · rename_i k hk
          split at p
          · rename_i y hy
            obtain ⟨w, hw, rw_⟩ := r1.get hy
            have f : Fr m H m (upd H a (.lst (ys.eraseIdx k))) := Fr.put (List.mem_of_getElem? hn)
            refine ⟨a, ys, i, k, w, rfl, rfl, h1, hb.1, hb.2, by rw [← r1.length]; exact hk, hw, ?_⟩
            exact p m _ f (s.put hn ⟨_, rfl, r1.eraseIdx k⟩) w (rw_.step f)
          · exact False.elim p
        · exact False.elim p
      · exact False.elim p
    · exact False.elim p
end
end PD

set_option Elab.async false
set_option linter.all false
set_option maxRecDepth 100000
set_option maxHeartbeats 4000000
namespace PD
open PySem PySem.Spec PyProof.Rows L2
/-! ### dicts -/
def keyOf : U → Option Key
  | .int i => some (.inl i)
  | .str x => some (.inr x)
  | _ => none
theorem keyOf_ok {K : PySem.W.Frag} {m : Mm} {H : Hp} {u : U} {v : V} {k : Key} (e : keyOf u = some k) (r : RU K m H u v) : v = kV k := by
  cases u with
  | int i => have r : v = .int i := r; cases e; exact r
  | str i => have r : v = .str i := r; cases e; exact r
  | _ => cases e
def getD (kvs : List (Key × U)) (k : Key) : Option U := (kvs.find? fun kv => decide (kv.1 = k)).map (·.2)
def putD (kvs : List (Key × U)) (k : Key) (u : U) : List (Key × U) := if (kvs.any fun kv => decide (kv.1 = k)) = true then kvs.map (fun kv => if kv.1 = k then (kv.1, u) else kv) else kvs ++ [(k, u)]
def mergeD (kvs more : List (Key × U)) : List (Key × U) := more.foldl (fun acc kv => putD acc kv.1 kv.2) kvs
/-- pairs by pairs -/
structure DR (K : PySem.W.Frag) (m : Mm) (H : Hp) (kvs : List (Key × U)) (kws : List (Key × V)) : Prop where
  ks : kvs.map (·.1) = kws.map (·.1)
  vs : RUs K m H (kvs.map (·.2)) (kws.map (·.2))
section
variable {K : PySem.W.Frag} {m : Mm} {H : Hp} {h : IH}
theorem DR.nil : DR K m H [] [] := ⟨rfl, RUs.nil⟩
theorem DR.cons {k : Key} {u : U} {v : V} {kvs : List (Key × U)} {kws : List (Key × V)} (a : RU K m H u v) (b : DR K m H kvs kws) : DR K m H ((k, u) :: kvs) ((k, v) :: kws) := ⟨by simp [b.ks], RUs.cons a b.vs⟩
theorem DR.uncons {p : Key × U} {kvs : List (Key × U)} {kws : List (Key × V)} (r : DR K m H (p :: kvs) kws) : ∃ v t, kws = (p.1, v) :: t ∧ RU K m H p.2 v ∧ DR K m H kvs t := by
  cases kws with
  | nil => have := r.ks; simp at this
  | cons q t =>
    obtain ⟨e1, e2⟩ := r
    obtain ⟨v, l, e3, r1, r2⟩ := e2
    simp at e1 e3
    obtain ⟨k, w⟩ := q
    obtain ⟨rfl, rfl⟩ := e3
    exact ⟨w, t, by rw [e1.1], r1, ⟨e1.2, r2⟩⟩
theorem DR.get : ∀ {kvs : List (Key × U)} {kws : List (Key × V)} {k : Key}, DR K m H kvs kws → match getD kvs k with
    | some u => ∃ v, valV kws k = some v ∧ RU K m H u v
    | none => valV kws k = none
  | [], kws, k, r => by
    have e : kws = [] := by have := r.ks; cases kws <;> simp_all
    subst e
    rfl
  | p :: kvs, kws, k, r => by
    obtain ⟨v, t, rfl, r1, r2⟩ := r.uncons
    by_cases hk : p.1 = k
    · have e : getD (p :: kvs) k = some p.2 := by simp [getD, List.find?_cons, hk]
      rw [e]
      exact ⟨v, valV_pos hk, r1⟩
    · have e : getD (p :: kvs) k = getD kvs k := by simp [getD, List.find?_cons, hk]
      rw [e, valV_neg (p := (p.1, v)) hk]
      exact DR.get r2
theorem DR.any : ∀ {kvs : List (Key × U)} {kws : List (Key × V)} {k : Key}, DR K m H kvs kws → (kvs.any fun kv => decide (kv.1 = k)) = kws.any fun kv => decide (kv.1 = k)
  | [], kws, k, r => by
    have e : kws = [] := by have := r.ks; cases kws <;> simp_all
    subst e
    rfl
  | p :: kvs, kws, k, r => by
    obtain ⟨v, t, rfl, r1, r2⟩ := r.uncons
    rw [List.any_cons, List.any_cons, DR.any r2]
theorem DR.repl {u : U} {v : V} (rv : RU K m H u v) : ∀ {kvs : List (Key × U)} {kws : List (Key × V)} {k : Key}, DR K m H kvs kws → DR K m H (kvs.map fun kv => if kv.1 = k then (kv.1, u) else kv) (kws.map fun kv => if kv.1 = k then (kv.1, v) else kv)
  | [], kws, k, r => by
    have e : kws = [] := by have := r.ks; cases kws <;> simp_all
    subst e
    exact DR.nil
  | p :: kvs, kws, k, r => by
    obtain ⟨w, t, rfl, r1, r2⟩ := r.uncons
    rw [List.map_cons, List.map_cons]
    by_cases hk : p.1 = k
    · rw [if_pos hk, if_pos hk]
      exact DR.cons rv (DR.repl rv r2)
    · rw [if_neg hk, if_neg (show ¬ (p.1, w).1 = k from hk)]
      exact DR.cons r1 (DR.repl rv r2)
theorem DR.put {u : U} {v : V} {kvs : List (Key × U)} {kws : List (Key × V)} {k : Key} (r : DR K m H kvs kws) (rv : RU K m H u v) : DR K m H (putD kvs k u) (putK kws k v) := by
  unfold putD putK
  rw [r.any]
  split
  · exact r.repl rv
  · exact ⟨by simp [r.ks], by rw [List.map_append, List.map_append]; exact r.vs.append (RUs.cons rv RUs.nil)⟩
theorem DR.merge : ∀ {more : List (Key × U)} {mw : List (Key × V)} {kvs : List (Key × U)} {kws : List (Key × V)}, DR K m H more mw → DR K m H kvs kws → DR K m H (mergeD kvs more) (mergeK kws mw)
  | [], mw, kvs, kws, a, b => by
    have e : mw = [] := by have := a.ks; cases mw <;> simp_all
    subst e
    exact b
  | p :: more, mw, kvs, kws, a, b => by
    obtain ⟨w, t, rfl, r1, r2⟩ := a.uncons
    have z := DR.merge r2 (b.put (k := p.1) r1)
    exact z
theorem DR.stepz {m' : Mm} {H' : Hp} {kvs : List (Key × U)} {kws : List (Key × V)} (f : Fz m H m' H') (r : DR K m H kvs kws) : DR K m' H' kvs kws := ⟨r.ks, r.vs.stepz f⟩
theorem DR.length {kvs : List (Key × U)} {kws : List (Key × V)} (r : DR K m H kvs kws) : kvs.length = kws.length := by have := congrArg List.length r.ks; simpa using this
theorem Sim.dk (s : Sim K m h H) {n : Nat} {kvs : List (Key × U)} {a : Addr} (e : h[n]? = some (.dk kvs)) (ea : m.o[n]? = some a) : ∃ kws, H a = some (.dK kws) ∧ DR K m H kvs kws := by
  obtain ⟨ho, e1, kws, rfl, e2, r⟩ := s.obj n a _ ea e
  exact ⟨kws, e1, e2, r⟩
theorem Sim.putD (s : Sim K m h H) {n : Nat} {kvs : List (Key × U)} {kws : List (Key × V)} {a : Addr} (ea : m.o[n]? = some a) (r : DR K m H kvs kws) : Sim K m (h.set n (.dk kvs)) (upd H a (.dK kws)) := s.put ea ⟨kws, rfl, r.ks, r.vs⟩
end
/-! ### a written dict -/
def Tab (K : PySem.W.Frag) : List DictEntry → List (Str × U) → Prop
  | [], t => t = []
  | e :: es, t => ∃ x u r, t = (x, u) :: r ∧ (∃ tk, e.key = .str x tk) ∧ (∃ v, RelV v e.val ∧ ∀ m H, RU K m H u v) ∧ Tab K es r
theorem Tab.find {K : PySem.W.Frag} : ∀ {es : List DictEntry} {t : List (Str × U)} {x : Str} {u : U}, Tab K es t → t.lookup x = some u → ∃ e v, es.find? (fun e => Value.isStrOf x e.key) = some e ∧ RelV v e.val ∧ ∀ m H, RU K m H u v
  | [], t, x, u, h, e => by
    have h : t = [] := h
    subst h
    cases e
  | e :: es, t, x, u, h, q => by
    obtain ⟨y, w, r, rfl, ⟨tk, ek⟩, ⟨v, rv, ru⟩, h2⟩ := h
    by_cases hx : x = y
    · subst hx
      have q : some w = some u := by simpa [List.lookup] using q
      cases q
      refine ⟨e, v, ?_, rv, ru⟩
      rw [List.find?_cons, ek]
      have : Value.isStrOf x (.str x tk) = true := by show (x == x) = true; simp
      rw [this]
    · have hb : (x == y) = false := by simpa using hx
      have q : r.lookup x = some u := by simpa [List.lookup, hb] using q
      obtain ⟨e2, v2, f2, g2⟩ := Tab.find h2 q
      refine ⟨e2, v2, ?_, g2⟩
      rw [List.find?_cons, ek]
      have : Value.isStrOf x (.str y tk) = false := by
        show (y == x) = false
        simpa using fun z => hx z.symm
      rw [this]
      exact f2
theorem Tab.len {K : PySem.W.Frag} : ∀ {es : List DictEntry} {t : List (Str × U)}, Tab K es t → es.length = t.length
  | [], t, h => by
    have h : t = [] := h
    subst h; rfl
  | e :: es, t, h => by
    obtain ⟨y, w, r, rfl, _, _, h2⟩ := h
    simp [Tab.len h2]
theorem Tab.at_ {K : PySem.W.Frag} : ∀ {es : List DictEntry} {t : List (Str × U)} {i : Nat} {p : Str × U}, Tab K es t → t[i]? = some p → ∃ e tk, es[i]? = some e ∧ e.key = .str p.1 tk
  | [], t, i, p, h, q => by
    have h : t = [] := h
    subst h
    simp at q
  | e :: es, t, i, p, h, q => by
    obtain ⟨y, w, r, rfl, ⟨tk, ek⟩, _, h2⟩ := h
    cases i with
    | zero =>
      have q : (y, w) = p := by simpa using q
      subst q
      exact ⟨e, tk, rfl, ek⟩
    | succ i =>
      have q : r[i]? = some p := by simpa using q
      obtain ⟨e2, t2, g1, g2⟩ := Tab.at_ h2 q
      exact ⟨e2, t2, by simpa using g1, g2⟩
/-- at d: a written dict with these keys and values -/
structure Wrt (K : PySem.W.Frag) (w : World) (d : Addr) (t : List (Str × U)) : Prop where
  ex : ∃ es n, KDict K w d es n ∧ Tab K es.toList t
  sz : t.length ≤ sizeLine

/-! ### d[k] -/
def dixU (tab : Addr → Option (List (Str × U))) (x y : U) (h : IH) : R U := match x with
  | .ref n => match h[n]?, keyOf y with
    | some (.dk kvs), some k => match getD kvs k with
      | some u => .ok u h
      | none => .bad
    | _, _ => .bad
  | .adr d => match tab d, y with
    | some t, .str z => match t.lookup z with
      | some u => .ok u h
      | none => .bad
    | _, _ => .bad
  | .dic ks xs => match (match y with
      | .non => some none
      | .int i => some (some i)
      | _ => (none : Option (Option Int))) with
    | some k => match (ks.zip xs).find? (fun p => decide (p.1 = k)) with
      | some p => .ok p.2 h
      | none => .bad
    | none => .bad
  | _ => .bad
def lkV (kws : List (Option Int × V)) (k : Option Int) : Option V := (kws.find? fun p => decide (p.1 = k)).map (·.2)
theorem dic_get {K : PySem.W.Frag} {m : Mm} {H : Hp} : ∀ {ks : List (Option Int)} {xs : List U} {ys : List V} {k : Option Int} {p : Option Int × U}, RUs K m H xs ys → (ks.zip xs).find? (fun p => decide (p.1 = k)) = some p → ∃ v, lkV (ks.zip ys) k = some v ∧ RU K m H p.2 v
  | [], xs, ys, k, p, r, e => by simp at e
  | q :: ks, [], ys, k, p, r, e => by simp at e
  | q :: ks, x :: xs, ys, k, p, r, e => by
    obtain ⟨y, t, rfl, r1, r2⟩ := r
    rw [List.zip_cons_cons, List.find?_cons] at e
    by_cases hk : q = k
    · subst hk
      simp at e
      subst e
      exact ⟨y, by simp [lkV, List.find?_cons], r1⟩
    · rw [show decide ((q, x).1 = k) = false from decide_eq_false hk] at e
      obtain ⟨v, e1, e2⟩ := dic_get r2 e
      refine ⟨v, ?_, e2⟩
      unfold lkV at e1 ⊢
      rw [List.zip_cons_cons, List.find?_cons, show decide ((q, y).1 = k) = false from decide_eq_false hk]
      exact e1
theorem leaf_get : ∀ {kws : List (Option Int × V)} {vs : List (PySem.Leaf × Value)} {k : Option Int} {v : V}, Paired (fun p q => lfK p.1 = q.1 ∧ RelV p.2 q.2) kws vs → lkV kws k = some v → ∃ u, valueAt vs (lfK k) = some u ∧ RelV v u
  | _, _, k, v, .nil, e => by simp [lkV] at e
  | _, _, k, v, .cons (a := p) (b := q) (l₁ := ps) (l₂ := qs) hpq t, e => by
    by_cases hk : p.1 = k
    · have e : p.2 = v := by simpa [lkV, List.find?_cons, hk] using e
      refine ⟨q.2, ?_, e ▸ hpq.2⟩
      simp [valueAt, List.find?_cons, ← hpq.1, hk]
    · have hl : ¬ lfK p.1 = lfK k := fun z => hk (by
        cases h1 : p.1 <;> cases h2 : k <;> rw [h1, h2] at z <;> simp [lfK] at z ⊢
        exact z)
      have e : lkV ps k = some v := by simpa [lkV, List.find?_cons, hk] using e
      obtain ⟨u, e1, e2⟩ := leaf_get t e
      refine ⟨u, ?_, e2⟩
      have hq : ¬ q.1 = lfK k := by rw [← hpq.1]; exact hl
      simp [valueAt, List.find?_cons, hq]
      simpa [valueAt] using e1
section
variable {X : Cx} {W : WX} {a b e : Expr} {es : List Expr} {fa fb fc : EM} {pos : Pos}
theorem ie_dix {tab : Addr → Option (List (Str × U))} (Bd_ : Bd X W k) (hw : ∀ d t, tab d = some t → Wrt X.K X.w d t) (ha : PE X a (TEi X.K W fa)) (hb : PE X b (TEi X.K W fb)) (hs : NoSl b := by exact fun _ _ => rfl) : PE X (.Subscript a b pos) (TEi X.K W (bin (dixU tab) fa fb)) := by
  refine ⟨fun pins s σ H Q I q => ?_⟩
  obtain ⟨ρ, m, h, re, sim, pp⟩ := q
  refine subD_of PySem.F.slot_dict_getitem.lookup hs (thn (ha.run pins s σ H (fun v H1 => ∃ m1 h1 x, Sim X.K m1 h1 H1 ∧ RU X.K m1 H1 x v ∧ RE X.K m1 H1 ρ σ ∧ Post X.K m1 H1 ((fb ρ h1).bind fun y h2 => dixU tab x y h2) (QU X.K Q) (exW X.K W σ)) I
    ⟨ρ, m, h, re, sim, pp.bind.mono (fun x h1 m1 H1 f1 s1 p1 v rv => ⟨m1, h1, x, s1, rv, re.step f1, p1⟩) fun _ _ _ _ _ _ _ z => z⟩) fun ov s1 hh => ?_)
  obtain ⟨v, H1, I1, rv, m1, h1, x, sim1, rx, re1, p1⟩ := hh
  refine thn (hb.run pins s1 σ H1 (fun vy H2 => ∃ m2 h2 y, Sim X.K m2 h2 H2 ∧ RU X.K m2 H2 x v ∧ RU X.K m2 H2 y vy ∧ Post X.K m2 H2 (dixU tab x y h2) (QU X.K Q) (exW X.K W σ)) I1
    ⟨ρ, m1, h1, re1, sim1, p1.bind.mono (fun y h2 m2 H2 f2 s2 p2 vy ry => ⟨m2, h2, y, s2, rx.step f2, ry, p2⟩) fun _ _ _ _ _ _ _ z => z⟩) fun iv s2 hh2 => ?_
  obtain ⟨vy, H2, I2, ry, m2, h2, y, sim2, rx2, ry2, p2⟩ := hh2
  unfold dixU at p2
  split at p2
  · rename_i n
    obtain ⟨ad, rfl, q⟩ := rx2
    cases (show ov = Value.ref ad from rv)
    split at p2
    · rename_i kvs k hh hk
      obtain ⟨kws, e1, dr⟩ := sim2.dk hh q
      have ek := keyOf_ok hk ry2
      have g := dr.get (k := k)
      split at p2
      · rename_i u hu
        rw [hu] at g
        obtain ⟨w, ew, rw_⟩ := g
        have G : DGet H2 ad vy (some w) := by rw [ek, ← ew]; exact DGet.k e1
        refine ⟨dict_typeIs I2 G, d_getItem (by have := Bd_.room.un; omega) I2 G ry fun w' s3 I3 rw' => ⟨w, H2, I3, rw', p2.here sim2 w rw_⟩⟩
      · exact False.elim p2
    · exact False.elim p2
  · rename_i d
    have rx2 : v = .ref d := rx2
    subst rx2
    cases (show ov = Value.ref d from rv)
    split at p2
    · rename_i t z ht
      obtain ⟨es, n, D, T⟩ := (hw _ _ ht).ex
      have ry2 : vy = .str z := ry2
      subst ry2
      obtain ⟨tk, rfl⟩ := (show ∃ tk, iv = Value.str z tk from ry)
      split at p2
      · rename_i u hu
        obtain ⟨e2, w, f2, g2, g3⟩ := T.find hu
        have hf : findBy Value.isStrOf es z = some e2.val := by
          unfold findBy
          rw [← Array.find?_toList, f2]
          rfl
        exact ⟨kd_type D I2, wpAny_getItem_of (PySem.strKind_is X.prog X.w z tk) (PySem.W.mapOf_K (prog := X.prog) I2.kIn D.at_ D.lit) hf ⟨w, H2, I2.tok _, g2, p2.here sim2 w (g3 _ _)⟩⟩
      · exact False.elim p2
    · exact False.elim p2
  · rename_i ks xs
    obtain ⟨ad, ys, rfl, hl, at1, rr⟩ := rx2
    cases (show ov = Value.ref ad from rv)
    obtain ⟨hφ, _⟩ := (show ObjOk X.prog X.w H2 s2.heap ad (.ext _) from I2.hok ad _ at1.h)
    obtain ⟨vs, pr, dd⟩ := hφ X.prog X.w
    split at p2
    · rename_i k hk
      split at p2
      · rename_i p hp
        obtain ⟨w, e1, e2⟩ := dic_get rr hp
        obtain ⟨u, e3, e4⟩ := leaf_get pr e1
        have hkey : (PySem.leafKind X.prog X.w).is (lfK k) iv = true := by
          cases y with
          | non =>
            have ry2 : vy = .non := ry2
            subst ry2
            cases hk
            cases (show iv = Value.none from ry)
            rfl
          | int i =>
            have ry2 : vy = .int i := ry2
            subst ry2
            cases hk
            obtain ⟨t, rfl⟩ := (show ∃ t, iv = Value.int i t from ry)
            exact decide_eq_true rfl
          | _ => cases hk
        exact ⟨dd.typeIs, wpAny_getItem_of hkey dd.mapOf e3 ⟨w, H2, I2.tok _, e4, p2.here sim2 w e2⟩⟩
      · exact False.elim p2
    · exact False.elim p2
  · exact False.elim p2
end
end PD

set_option Elab.async false
set_option linter.all false
set_option maxRecDepth 100000
set_option maxHeartbeats 4000000
namespace PD
open PySem PySem.Spec PyProof.Rows L2
/-! ### o[i] = v -/
/-- of a list or a dict -/
def putX (o i u : U) (h : IH) : R Unit := match o with
  | .ref n => match h[n]? with
    | some (.dk kvs) => match keyOf i with
      | some k => if kvs.length < sizeLine then .ok () (h.set n (.dk (putD kvs k u))) else .bad
      | none => .bad
    | _ => putU o i u h
  | _ => putU o i u h
section
variable {X : Cx} {W : WX} {a b e : Expr} {es : List Expr} {fa fb fc : EM} {pos : Pos} {k : Nat}
theorem PSet.or {t t' : TSet} (h : PSet X t) (h' : PSet X t') : PSet X (fun o i v H Q => t o i v H Q ∨ t' o i v H Q) := by
  intro pins s σ H o i v ov iv u Q I ro ri rv q
  rcases q with q | q
  · exact h pins s σ H o i v ov iv u Q I ro ri rv q
  · exact h' pins s σ H o i v ov iv u Q I ro ri rv q
theorem putX_ok {K : PySem.W.Frag} {m : Mm} {H : Hp} {h : IH} {o i u : U} {ov iv v : V} {Q : Hp → Prop} {Wn : Addr → U → IH → Mm → Hp → Prop} (s : Sim K m h H) (ro : RU K m H o ov) (ri : RU K m H i iv) (ru : RU K m H u v)
    (p : Post K m H (putX o i u h) (fun _ _ _ H' => Q H') Wn) : rSetL ov iv v H Q ∨ rSetD ov iv v H Q := by
  unfold putX at p
  split at p
  · split at p
    · rename_i n kvs hh
      obtain ⟨ad, rfl, q⟩ := ro
      obtain ⟨kws, e1, dr⟩ := s.dk hh q
      split at p
      · rename_i kk hk
        have ek := keyOf_ok hk ri
        split at p
        · rename_i hz
          refine .inr ⟨ad, upd H ad (.dK (putK kws kk v)), rfl, ?_, ?_⟩
          · rw [ek]; exact DPut.k e1 (by rw [← dr.length]; exact hz)
          · exact p m _ (Fr.put (List.mem_of_getElem? q)) (s.putD q (dr.put ru))
        · exact False.elim p
      · exact False.elim p
    · exact .inl (putU_ok s ro ri ru p)
  · exact .inl (putU_ok s ro ri ru p)
theorem ig_sub (Bd_ : Bd X W k) (ha : PE X a (TEi X.K W fa)) (hb : PE X b (TEi X.K W fb)) (hi : ∀ v, assign (.Subscript a b pos) X.env v = (do
      let ov ← holding [v] (eval a X.env)
      let iv ← holding [v, ov] (eval b X.env)
      standAt pos
      holding [v, ov, iv] (setItem ov iv v)
      release [v, ov, iv] []) := by intro _; rfl) : PG X (.Subscript a b pos) (TGi X.K W [] (subG fa fb putX)) := by
  refine PG.imp (pg_sub ha hb (PSet.or set_list (set_dict (by have := Bd_.room.un; omega))) hi) ?_
  rintro v σ H Q ⟨ρ, m, h, u, re, sim, r, p⟩
  refine ⟨ρ, m, h, re, sim, p.bind.mono (fun x h1 m1 H1 f1 s1 p1 xv rx => ?_) fun _ _ _ _ _ _ _ z => z⟩
  refine ⟨ρ, m1, h1, re.step f1, s1, p1.bind.mono (fun y h2 m2 H2 f2 s2 p2 yv ry => ?_) fun _ _ _ _ _ _ _ z => z⟩
  refine putX_ok s2 (rx.step f2) ry (r.step (f1.trans f2)) (p2.bind.mono (fun _ h3 m3 H3 f3 s3 p3 => ?_) fun _ _ _ _ _ _ _ z => z)
  exact p3.here s3 σ (re.step (f1.trans (f2.trans f3))) Agr.refl

/-! ### unpacking a tuple or a list -/
def seqG (n : Nat) (k : List U → Env → IH → R Env) : GM := fun u ρ h => match u with
  | .tup us => if us.length = n then noX (k us ρ h) else .bad
  | u => match itL h u with
    | some us => if us.length = n then noX (k us ρ h) else .bad
    | none => .bad
theorem PG.or {t t' : TG} (h : PG X a t) (h' : PG X a t') : PG X a (fun v σ H Q => t v σ H Q ∨ t' v σ H Q) := ⟨fun pins s σ H v u Q I r q => by
  rcases q with q | q
  · exact h.run pins s σ H v u Q I r q
  · exact h'.run pins s σ H v u Q I r q⟩
theorem ig_seq {kk : Nat} {n : Nat} {sl : List Nat} {g : List U → Env → IH → R Env} (hc : X.calm = true) (hh : PGs X es (TGsi X.K sl g))
    (hn : (assignEach es X.env).length = n := by rfl) (hst : (assignEach es X.env).findIdx? (·.1) = none := by rfl) : PG X (.Tuple es kk pos) (TGi X.K W sl (seqG n g)) := by
  refine PG.imp (PG.or (pg_tup hc hh hn hst) (pg_unl hc hh hn hst)) ?_
  rintro v σ H Q ⟨ρ, m, h, u, re, sim, r, p⟩
  unfold seqG at p
  split at p
  · rename_i us
    obtain ⟨t, ys, rfl, ta, q⟩ := r
    split at p
    · rename_i hl
      exact .inl ⟨t, ys, rfl, ta.sq, by rw [← q.length]; exact hl, ρ, m, h, us, re, sim, q, Post.noX p⟩
    · exact False.elim p
  · split at p
    · rename_i us hus
      obtain ⟨t, ys, rfl, ta, q⟩ := itL_ok sim hus r
      split at p
      · rename_i hl
        exact .inr ⟨t, ys, rfl, ta, by rw [← q.length]; exact hl, ρ, m, h, us, re, sim, q, Post.noX p⟩
      · exact False.elim p
    · exact False.elim p

/-! ### d.get(k, x) -/
def dget2 (f g k : EM) : EM := fun ρ h => (f ρ h).bind fun x h1 => match x with
  | .ref n => match h1[n]? with
    | some (.dk _) => (g ρ h1).bind fun y h2 => (k ρ h2).bind fun z h3 => match h3[n]?, keyOf y with
      | some (.dk kvs), some kk => .ok ((getD kvs kk).getD z) h3
      | _, _ => .bad
    | _ => .bad
  | _ => .bad
theorem ie_dget2 {o f : Expr} {apos cpos : Pos} (Bd_ : Bd X W k) (ho : PE X o (TEi X.K W fa)) (he : PE X e (TEi X.K W fb)) (hf : PE X f (TEi X.K W fc)) (m : M2 X o "get" apos e f cpos) :
    PE X (.Call (.Attribute o "get" apos) [e, f] [] cpos) (TEi X.K W (dget2 fa fb fc)) := by
  refine PE.imp (pe_dget2 (by have := Bd_.room.un; omega) ho he hf m) ?_
  rintro σ H Q ⟨ρ, m, h, re, sim, p⟩
  refine ⟨ρ, m, h, re, sim, p.bind.mono (fun x h1 m1 H1 f1 s1 p1 v rv => ?_) fun _ _ _ _ _ _ _ z => z⟩
  split at p1
  · rename_i n
    obtain ⟨ad, rfl, q⟩ := rv
    split at p1
    · rename_i kvs0 hh0
      obtain ⟨kws0, e0, dr0⟩ := s1.dk hh0 q
      refine ⟨ad, rfl, .inl ⟨kws0, .inl e0⟩, ρ, m1, h1, re.step f1, s1, p1.bind.mono (fun y h2 m2 H2 f2 s2 p2 vy ry => ?_) fun _ _ _ _ _ _ _ z => z⟩
      refine ⟨ρ, m2, h2, (re.step f1).step f2, s2, p2.bind.mono (fun z h3 m3 H3 f3 s3 p3 vz rz => ?_) fun _ _ _ _ _ _ _ z => z⟩
      split at p3
      · rename_i kvs kk hh hk
        obtain ⟨kws, e1, dr⟩ := s3.dk hh ((f2.trans f3).w.get q)
        have ek := keyOf_ok hk (ry.step f3)
        have g := dr.get (k := kk)
        refine ⟨valV kws kk, by rw [ek]; exact DGet.k e1, ?_⟩
        cases hu : getD kvs kk with
        | none =>
          rw [hu] at g p3
          rw [g]
          exact p3.here s3 _ rz
        | some u =>
          rw [hu] at g p3
          obtain ⟨w, ew, rw_⟩ := g
          rw [ew]
          exact p3.here s3 _ rw_
      · exact False.elim p3
    · exact False.elim p1
  · exact False.elim p1

/-! ### {k: v, ..} -/
def prsM : List (EM × EM) → Env → IH → R (List (U × U))
  | [], _, h => .ok [] h
  | (f, g) :: r, ρ, h => (f ρ h).bind fun x h1 => (g ρ h1).bind fun y h2 => (prsM r ρ h2).bind fun ps h3 => .ok ((x, y) :: ps) h3
def keyed : List (U × U) → Option (List (Key × U))
  | [] => some []
  | (x, y) :: r => match keyOf x, keyed r with
    | some k, some t => some ((k, y) :: t)
    | _, _ => none
def dispE (prs : List (EM × EM)) : EM := fun ρ h => (prsM prs ρ (h ++ [.dk []])).bind fun ps h2 => match h2[h.length]?, keyed ps with
  | some (.dk []), some kvs => if kvs.length ≤ 15 then .ok (.ref h.length) (h2.set h.length (.dk (mergeD [] kvs))) else .bad
  | _, _ => .bad
def RP (K : PySem.W.Frag) (m : Mm) (H : Hp) : List (U × U) → List (V × V) → Prop
  | [], ps => ps = []
  | p :: r, ps => ∃ x y t, ps = (x, y) :: t ∧ RU K m H p.1 x ∧ RU K m H p.2 y ∧ RP K m H r t
theorem RP.keyed {K : PySem.W.Frag} {m : Mm} {H : Hp} : ∀ {us : List (U × U)} {ps : List (V × V)} {kvs : List (Key × U)}, RP K m H us ps → keyed us = some kvs → ∃ kws, ps = kws.map (fun kv => (kV kv.1, kv.2)) ∧ DR K m H kvs kws
  | [], ps, kvs, r, e => by
    have r : ps = [] := r
    subst r
    cases e
    exact ⟨[], rfl, DR.nil⟩
  | (x, y) :: us, ps, kvs, r, e => by
    obtain ⟨vx, vy, t, rfl, r1, r2, r3⟩ := r
    unfold PD.keyed at e
    split at e
    · rename_i k kt hk ht
      cases e
      obtain ⟨kws, rfl, dr⟩ := RP.keyed r3 ht
      have ek : vx = kV k := keyOf_ok hk r1
      exact ⟨(k, vy) :: kws, by rw [ek]; rfl, DR.cons r2 dr⟩
    · cases e
theorem prs_of : ∀ (prs : List (EM × EM)) {σ : L2.St} {ρ : Env} {m : Mm} {h : IH} {H : Hp} {Q : List (V × V) → Hp → Prop}, RE X.K m H ρ σ → Sim X.K m h H →
    Post X.K m H (prsM prs ρ h) (fun us _ m' H' => ∀ ps, RP X.K m' H' us ps → Q ps H') (exW X.K W σ) → tPairs (prs.map fun p => (TEi X.K W p.1, TEi X.K W p.2)) σ H Q
  | [], σ, ρ, m, h, H, Q, re, sim, p => p.here sim [] rfl
  | (f, g) :: r, σ, ρ, m, h, H, Q, re, sim, p => by
    have p : Post X.K m H ((f ρ h).bind fun x h1 => (g ρ h1).bind fun y h2 => (prsM r ρ h2).bind fun ps h3 => .ok ((x, y) :: ps) h3) _ _ := p
    refine ⟨ρ, m, h, re, sim, p.bind.mono (fun x h1 m1 H1 f1 s1 p1 v rv => ?_) fun _ _ _ _ _ _ _ z => z⟩
    refine ⟨ρ, m1, h1, re.step f1, s1, p1.bind.mono (fun y h2 m2 H2 f2 s2 p2 w rw_ => ?_) fun _ _ _ _ _ _ _ z => z⟩
    refine prs_of r (re.step (f1.trans f2)) s2 (p2.bind.mono (fun us h3 m3 H3 f3 s3 p3 ps rp => ?_) fun _ _ _ _ _ _ _ z => z)
    exact p3.here s3 _ ⟨v, w, ps, rfl, rv.step (f2.trans f3), rw_.step f3, rp⟩
theorem ie_disp {keys : List (Option Expr)} {values : List Expr} {prs : List (EM × EM)} (hp : PPs X pos keys values (prs.map fun p => (TEi X.K W p.1, TEi X.K W p.2))) (hall : keys.all (·.isSome) = true := by rfl) (hl : keys.length = values.length := by rfl) (h0 : keys ≠ [] := by simp)
    (h15 : keys.length ≤ 15 := by decide) : PE X (.Dict keys values pos) (TEi X.K W (dispE prs)) := by
  refine PE.imp (pe_disp hp hall hl h0 h15) ?_
  rintro σ H Q ⟨ρ, m, h, re, sim, p⟩ pa hpa
  have f0 : Fr m H (m.add pa) (upd H pa (.dK [])) := Fr.add hpa
  have s0 : Sim X.K (m.add pa) (h ++ [.dk []]) (upd H pa (.dK [])) := sim.add hpa ⟨[], rfl, rfl, rfl⟩
  refine prs_of prs (re.step f0) s0 ((Post.go f0 p).bind.mono (fun us h2 m2 H2 f2 s2 p2 ps rp => ?_) fun _ _ _ _ _ _ _ z => z)
  have ga : m2.o[h.length]? = some pa := f2.w.get (Mm.add_get (by rw [← sim.len]))
  split at p2
  · rename_i kvs hh hk
    obtain ⟨kws0, e0, dr0⟩ := s2.dk hh ga
    have ez : kws0 = [] := by have := dr0.ks; cases kws0 <;> simp_all
    subst ez
    obtain ⟨kws, rfl, dr⟩ := rp.keyed hk
    split at p2
    · rename_i hz
      refine ⟨e0, kws, rfl, by rw [← dr.length]; exact hz, ?_⟩
      exact p2 m2 _ (Fr.put (List.mem_of_getElem? ga)) (s2.putD ga (dr.merge DR.nil)) _ ⟨pa, rfl, ga⟩
    · exact False.elim p2
  · exact False.elim p2
theorem ipp_nil : PPs X pos [] [] (([] : List (EM × EM)).map fun p => (TEi X.K W p.1, TEi X.K W p.2)) := pps_nil
theorem ipp_cons {kx vx : Expr} {ks : List (Option Expr)} {vs : List Expr} {prs : List (EM × EM)} (hk : PE X kx (TEi X.K W fa)) (hv : PE X vx (TEi X.K W fb)) (hr : PPs X pos ks vs (prs.map fun p => (TEi X.K W p.1, TEi X.K W p.2))) :
    PPs X pos (some kx :: ks) (vx :: vs) (((fa, fb) :: prs).map fun p => (TEi X.K W p.1, TEi X.K W p.2)) := pps_cons hk hv hr
end
end PD

set_option Elab.async false
set_option linter.all false
set_option maxRecDepth 100000
set_option maxHeartbeats 4000000
namespace PD
open PySem PySem.Spec PyProof.Rows L2
/-! ### zip of two, enumerate: lists, tuples, texts in any mix -/
/-- what is walked beside another: Cn its items, It its iterator, fa the object -/
structure Sv (P : Program) (w : World) (K : PySem.W.Frag) (x : V) (Cn : Hp → List V → Prop) (It : Addr → Nat → Heap → Prop) (fa : List Addr) : Prop where
  obj : ∀ it i h, It it i h → ∃ o vs, h.get? it = some o ∧ o.data = .fields vs
  keep : ∀ it i h h', It it i h → (∀ o, h.get? it = some o → h'.get? it = some o) → It it i h'
  drw : ∀ (X : Cx), X.prog = P → X.w = w → X.K = K → ∀ (pins : List (Addr × Obj)) (σ : L2.St) (s : Shared) (H : Hp) (xs : List V) (A : Around) (it : Addr) (i : Nat), A.handled = none → Inv X pins σ H s → Cn H xs → It it i s.heap → (∀ b ∈ fa, b ≠ it) →
    ∃ (Pr : Nat → Value → Prop) (Sti : Nat → Heap → Prop), Draws P w A it (it :: fa) xs.length Pr Sti ∧ Sti i s.heap ∧ (∀ j h, Sti j h → It it j h) ∧ ∀ j v, Pr j v → ∃ y, xs[j]? = some y ∧ RelV y v
  one : ∀ (X : Cx), X.K = K → ∀ (pins : List (Addr × Obj)) (σ : L2.St) (s : Shared) (H : Hp) (xs ys : List V), Inv X pins σ H s → Cn H xs → Cn H ys → xs = ys
  beg : ∀ (X : Cx), X.K = K → ∀ (pins : List (Addr × Obj)) (σ : L2.St) (s : Shared) (H : Hp) (xs : List V) (u : Value), Inv X pins σ H s → Cn H xs → RelV x u →
    ∃ (o : Obj) (Hc : Heap → Prop), Begins u o Hc ∧ Hc s.heap ∧ (∀ it h, h.get? it = some o → It it 0 h) ∧ ∀ b ∈ fa, b < s.heap.objs.size
theorem pget2 : ∀ {xs : List V} {us : List Value} {j : Nat} {v : Value}, Vals xs us → us[j]? = some v → ∃ y, xs[j]? = some y ∧ RelV y v
  | _, _, _, _, .nil, e => by simp at e
  | _, _, 0, _, .cons r _, e => by
    simp at e
    subst e
    exact ⟨_, rfl, r⟩
  | _, _, j + 1, _, .cons _ t, e => by
    obtain ⟨y, h1, h2⟩ := pget2 t (by simpa using e)
    exact ⟨y, by simpa using h1, h2⟩
theorem sv_list {P : Program} {w : World} {K : PySem.W.Frag} (a : Addr) : Sv P w K (.ref a) (fun H xs => SqL K H a xs) (fun it i h => h.IsListIter it a i) [a] where
  obj := fun it i h ⟨o, e, _, d⟩ => ⟨o, _, e, d⟩
  keep := fun it i h h' st k => st.at k
  drw := by
    intro X hP hw hK pins σ s H xs A it i hh I q st ne
    subst hP hw hK
    obtain ⟨its, rv, p, _⟩ := I.list q
    have D := Draws.list (prog := X.prog) (w := X.w) (A := A) hh it a (ne a (by simp)) its.toArray
    rw [show its.toArray.size = xs.length from by simp [rv.length]] at D
    refine ⟨_, _, D, ⟨st, p.isList⟩, fun j h z => z.1, fun j v e => ?_⟩
    obtain ⟨y, hy, r⟩ := pget2 rv (by simpa using e)
    exact ⟨y, hy, r⟩
  one := by
    intro X hK pins σ s H xs ys I q1 q2
    subst hK
    exact I.list_inj q1 q2
  beg := by
    intro X hK pins σ s H xs u I q r
    subst hK
    cases (show u = Value.ref a from r)
    obtain ⟨its, rv, p, _⟩ := I.list q
    refine ⟨_, _, begins_list a its.toArray, p.isList, fun it h e => ⟨_, e, rfl, rfl⟩, fun b hb => ?_⟩
    have : b = a := by simpa using hb
    subst this
    obtain ⟨o, e, _⟩ := p.isList
    exact Heap.lt_size e
theorem sv_tuple {P : Program} {w : World} {K : PySem.W.Frag} (a : Addr) : Sv P w K (.ref a) (fun H xs => SqT K H a xs) (fun it i h => h.IsTupleIter it a i) [a] where
  obj := fun it i h ⟨o, e, _, d⟩ => ⟨o, _, e, d⟩
  keep := fun it i h h' st k => st.at k
  drw := by
    intro X hP hw hK pins σ s H xs A it i hh I q st ne
    subst hP hw hK
    obtain ⟨its, rv, p, _⟩ := I.tuple q
    have D := Draws.tuple (prog := X.prog) (w := X.w) (A := A) hh it a (ne a (by simp)) its.toArray
    rw [show its.toArray.size = xs.length from by simp [rv.length]] at D
    refine ⟨_, _, D, ⟨st, p⟩, fun j h z => z.1, fun j v e => ?_⟩
    obtain ⟨y, hy, r⟩ := pget2 rv (by simpa using e)
    exact ⟨y, hy, r⟩
  one := by
    intro X hK pins σ s H xs ys I q1 q2
    subst hK
    exact I.tuple_inj q1 q2
  beg := by
    intro X hK pins σ s H xs u I q r
    subst hK
    cases (show u = Value.ref a from r)
    obtain ⟨its, rv, p, _⟩ := I.tuple q
    refine ⟨_, _, begins_tuple a its.toArray, p, fun it h e => ⟨_, e, rfl, rfl⟩, fun b hb => ?_⟩
    have : b = a := by simpa using hb
    subst this
    obtain ⟨o, e, _⟩ := id p
    exact Heap.lt_size e
abbrev chV (z : Str) : List V := z.cps.toList.map fun c => .str ⟨#[c]⟩
theorem sv_text {P : Program} {w : World} {K : PySem.W.Frag} (z : Str) : Sv P w K (.str z) (fun H xs => xs = chV z) (fun it i h => ∃ t, h.IsStrIter it (strIterType z) z t i) [] where
  obj := fun it i h ⟨t, o, e, _, d⟩ => ⟨o, _, e, d⟩
  keep := fun it i h h' ⟨t, o, e, c, d⟩ k => ⟨t, o, k o e, c, d⟩
  drw := by
    intro X hP hw hK pins σ s H xs A it i hh I q st ne
    subst hP hw hK q
    obtain ⟨t, st⟩ := st
    have D := Draws.text (prog := X.prog) (w := X.w) (A := A) hh it z t
    rw [show z.cps.size = (chV z).length from by simp] at D
    refine ⟨_, _, D, st, fun j h y => ⟨t, y⟩, fun j v e => ?_⟩
    obtain ⟨c, u, e1, rfl⟩ := e
    exact ⟨.str ⟨#[c]⟩, by simp [e1], ⟨u, rfl⟩⟩
  one := by
    intro X hK pins σ s H xs ys I q1 q2
    rw [q1, q2]
  beg := by
    intro X hK pins σ s H xs u I q r
    obtain ⟨t, rfl⟩ := (show ∃ t, u = Value.str z t from r)
    exact ⟨_, _, begins_text z t, trivial, fun it h e => ⟨t, _, e, rfl, rfl⟩, fun b hb => by cases hb⟩
section
variable {P : Program} {w : World} {K : PySem.W.Frag} {x1 x2 : V} {C1 C2 : Hp → List V → Prop} {T1 T2 : Addr → Nat → Heap → Prop} {a1 a2 : List Addr}
/-- the pairs, new ones -/
def Izp (C1 C2 : Hp → List V → Prop) : It :=
  ⟨fun i H => ∃ (xs ys : List V), C1 H xs ∧ C2 H ys ∧ i < min xs.length ys.length,
    fun i H v H' => ∃ T x y, v = .ref T ∧ H T = none ∧ H' = upd H T (.tup [x, y]) ∧ (∀ xs, C1 H xs → xs[i]? = some x) ∧ ∀ ys, C2 H ys → ys[i]? = some y,
    fun i H => ∃ xs ys : List V, C1 H xs ∧ C2 H ys ∧ i = min xs.length ys.length⟩
theorem turn_zp {elts : List Expr} {kk : Nat} {tpos : Pos} {z TI TO i1 i2 : Addr} (S1 : Sv P w K x1 C1 T1 a1) (S2 : Sv P w K x2 C2 T2 a2) (S : ZipSep2 z TI TO i1 i2 (i1 :: a1) (i2 :: a2)) (m1 : i1 ∉ a1) (m2 : i2 ∉ a2) :
    Turn P w K (.Tuple elts kk tpos) (Izp C1 C2) [z, TI, TO, i1, i2] z (fun i h => IsZip h z TI TO .none ∧ IsTupOf2 h TI (.ref i1) (.ref i2) ∧ (∃ x y, IsTupOf2 h TO x y) ∧ T1 i1 i h ∧ T2 i2 i h) where
  mem := by simp
  obj := fun i h st c hc => by
    obtain ⟨hz, hTI, ⟨x, y, hTO⟩, h1, h2⟩ := st
    obtain ⟨o1, v1, e1, d1⟩ := S1.obj _ _ _ h1
    obtain ⟨o2, v2, e2, d2⟩ := S2.obj _ _ _ h2
    have e' : c = z ∨ c = TI ∨ c = TO ∨ c = i1 ∨ c = i2 := by simpa using hc
    rcases e' with q | q | q | q | q
    · rw [q]; exact ⟨_, hz, fun v q => nomatch q⟩
    · rw [q]; exact ⟨_, hTI, fun v q => nomatch q⟩
    · rw [q]; exact ⟨_, hTO, fun v q => nomatch q⟩
    · rw [q]; exact ⟨o1, e1, fun v q => by rw [d1] at q; cases q⟩
    · rw [q]; exact ⟨o2, e2, fun v q => by rw [d2] at q; cases q⟩
  keep := fun i h h' st k => by
    obtain ⟨hz, hTI, ⟨x, y, hTO⟩, h1, h2⟩ := st
    exact ⟨k z (by simp) _ hz, k TI (by simp) _ hTI, ⟨x, y, k TO (by simp) _ hTO⟩, S1.keep _ _ _ _ h1 fun o q => k i1 (by simp) o q, S2.keep _ _ _ _ h2 fun o q => k i2 (by simp) o q⟩
  item := by
    intro X hP hw hK hc i pins s σ H E I hf st hg
    obtain ⟨hz, hTI, hTO, h1, h2⟩ := st
    obtain ⟨xs, ys, c1, c2, hi⟩ := hg
    have hh : X.A.in1.handled = none := I.ok.hd hc
    obtain ⟨P1, St1, D1, s1, k1, r1⟩ := S1.drw X hP hw hK pins σ s H xs X.A.in1 i1 i hh I c1 h1 fun b hb q => m1 (q ▸ hb)
    obtain ⟨P2, St2, D2, s2, k2, r2⟩ := S2.drw X hP hw hK pins σ s H ys X.A.in1 i2 i hh I c2 h2 fun b hb q => m2 (q ▸ hb)
    refine (GoesN.zip2 (elts := elts) (x1 := kk) (pos := tpos) S D1 D2).goes i s _ _ hi ⟨hz, hTI, hTO, s1, s2⟩ fun v h' tk hY st' hk _ => ?_
    obtain ⟨T, u, u2, rfl, hT, p1, p2, isT⟩ := hY
    obtain ⟨z', TI', TO', s1', s2'⟩ := st'
    obtain ⟨x, hx, rx⟩ := r1 i u p1
    obtain ⟨y, hy, ry⟩ := r2 i u2 p2
    obtain ⟨oT, eT, cT, nT, dT⟩ := isT
    have new : ObjOk X.prog X.w (upd H T (.tup [x, y])) h' T (.tup [x, y]) := ⟨by show 2 ≤ sizeLine; decide, [u, u2], .cons rx (.cons ry .nil), ⟨oT, eT, cT, nT, dT⟩⟩
    have sub : ∀ b, b ∈ [z, TO, i1, i2] → b ∈ [z, TI, TO, i1, i2] := fun b hb => by
      simp only [List.mem_cons, List.not_mem_nil, or_false] at hb ⊢
      rcases hb with q | q | q | q <;> simp [q]
    have hf' : ∀ b ∈ [z, TO, i1, i2], FpOk X pins H b := fun b hb => hf b (sub b hb)
    have I1 : Inv X pins σ (upd H T (.tup [x, y])) { s with heap := h', toks := tk } := I.turnedNew (t' := tk) (ch := [z, TO, i1, i2]) hk hf' hT new
    refine ⟨.ref T, _, I1, rfl, ⟨T, x, y, rfl, I.hok.fresh hT, rfl, fun l hl => by rw [S1.one X hK pins σ s H l xs I hl c1]; exact hx, fun l hl => by rw [S2.one X hK pins σ s H l ys I hl c2]; exact hy⟩, ⟨z', TI', TO', k1 _ _ s1', k2 _ _ s2'⟩, fun c hcm => ?_⟩
    have hlt : c < s.heap.objs.size := by
      obtain ⟨o1, v1, e1, d1⟩ := S1.obj _ _ _ h1
      obtain ⟨o2, v2, e2, d2⟩ := S2.obj _ _ _ h2
      obtain ⟨q1, q2, hTO⟩ := hTO
      have e' : c = z ∨ c = TI ∨ c = TO ∨ c = i1 ∨ c = i2 := by simpa using hcm
      rcases e' with q | q | q | q | q
      · rw [q]; exact Heap.lt_size hz
      · rw [q]; exact Heap.lt_size hTI
      · rw [q]; exact Heap.lt_size hTO
      · rw [q]; exact Heap.lt_size e1
      · rw [q]; exact Heap.lt_size e2
    rw [upd_ne (Nat.ne_of_lt (Nat.lt_of_lt_of_le hlt hT))]
    exact (hf c hcm).1
  done := by
    intro X hP hw hK hc i pins s σ H E I hf st hg
    obtain ⟨hz, hTI, hTO, h1, h2⟩ := st
    obtain ⟨xs, ys, c1, c2, hi⟩ := hg
    have hh : X.A.in1.handled = none := I.ok.hd hc
    obtain ⟨P1, St1, D1, s1, k1, r1⟩ := S1.drw X hP hw hK pins σ s H xs X.A.in1 i1 i hh I c1 h1 fun b hb q => m1 (q ▸ hb)
    obtain ⟨P2, St2, D2, s2, k2, r2⟩ := S2.drw X hP hw hK pins σ s H ys X.A.in1 i2 i hh I c2 h2 fun b hb q => m2 (q ▸ hb)
    subst hi
    refine (GoesN.zip2 (elts := elts) (x1 := kk) (pos := tpos) S D1 D2).stops s _ _ ⟨hz, hTI, hTO, s1, s2⟩ fun h' tk hk _ => ?_
    have hf' : ∀ b ∈ [z, TO, i1, i2], FpOk X pins H b := fun b hb => hf b (by
      simp only [List.mem_cons, List.not_mem_nil, or_false] at hb ⊢
      rcases hb with q | q | q | q <;> simp [q])
    exact I.turnedL (t' := tk) (ch := [z, TO, i1, i2]) hk hf'
  self := fun A i s Q E st h => wpAny_pyIter_zip st.1 h
end
end PD

set_option Elab.async false
set_option linter.all false
set_option maxRecDepth 100000
set_option maxHeartbeats 4000000
namespace PD
open PySem PySem.Spec PyProof.Rows L2
/-- what may be walked beside another -/
def soU (h : IH) : U → Option (List U × List (Nat × List U))
  | .tup xs => some (xs, [])
  | .lst xs => some (xs, [])
  | .scr xs => some (xs, [])
  | .str z => some (z.cps.toList.map fun c => .str ⟨#[c]⟩, [])
  | .ref n => match h[n]? with
    | some (.lst xs) => some (xs, [(n, xs)])
    | _ => none
  | _ => none
theorem so_ok {P : Program} {w : World} {K : PySem.W.Frag} {m : Mm} {h : IH} {H : Hp} (s : Sim K m h H) {u : U} {v : V} {xs : List U} {ck : List (Nat × List U)} (r : RU K m H u v) (e : soU h u = some (xs, ck)) :
    ∃ C T fa, Sv P w K v C T fa ∧ (∃ ys, C H ys) ∧ ∀ m' h' H', Fw m H m' H' → Sim K m' h' H' → (∀ p ∈ ck, h'[p.1]? = some (.lst p.2)) → ∃ ys, C H' ys ∧ RUs K m' H' xs ys := by
  cases u with
  | tup xs0 =>
    obtain ⟨a, ys, rfl, t, q⟩ := r
    cases e
    exact ⟨_, _, _, sv_tuple a, ⟨ys, t.sq⟩, fun m' h' H' f s' _ => ⟨ys, (f.tup t).sq, q.stepw f⟩⟩
  | lst xs0 =>
    obtain ⟨a, ys, rfl, t, q⟩ := r
    cases e
    exact ⟨_, _, _, sv_list a, ⟨ys, SqL.of t.h⟩, fun m' h' H' f s' _ => ⟨ys, SqL.of (f.at_ t).h, q.stepw f⟩⟩
  | scr xs0 =>
    obtain ⟨a, ys, rfl, t, q⟩ := r
    cases e
    exact ⟨_, _, _, sv_list a, ⟨ys, t.sq⟩, fun m' h' H' f s' _ => ⟨ys, (f.scr t).sq, q.stepw f⟩⟩
  | str z =>
    have r : v = .str z := r
    subst r
    cases e
    refine ⟨_, _, _, sv_text z, ⟨_, rfl⟩, fun m' h' H' f s' _ => ⟨chV z, rfl, ?_⟩⟩
    show RUs K m' H' (z.cps.toList.map fun c => U.str ⟨#[c]⟩) (z.cps.toList.map fun c => V.str ⟨#[c]⟩)
    induction z.cps.toList with
    | nil => exact RUs.nil
    | cons c l ih => exact RUs.cons (show V.str ⟨#[c]⟩ = V.str ⟨#[c]⟩ from rfl) ih
  | ref n =>
    obtain ⟨a, rfl, q⟩ := r
    unfold soU at e
    dsimp only at e
    split at e
    · rename_i zs hh
      cases e
      obtain ⟨ys, e2, r2⟩ := s.lst hh q
      refine ⟨_, _, _, sv_list a, ⟨ys, SqL.of e2⟩, fun m' h' H' f s' hat => ?_⟩
      obtain ⟨ys', e3, r3⟩ := s'.lst (hat (n, xs) (by simp)) (f.get q)
      exact ⟨ys', SqL.of e3, r3⟩
    · cases e
  | _ => cases e
def zipP (xs ys : List U) : List U := (xs.zip ys).map fun p => .tup [p.1, p.2]
def zipU (fs : AM) : Env → IH → R Src := fun ρ h => (fs ρ h).bind fun us h1 => match us with
  | [u, v] => match soU h1 u, soU h1 v with
    | some (xs, c1), some (ys, c2) => .ok { items := zipP xs ys, chk := c1 ++ c2 } h1
    | _, _ => .bad
  | _ => .bad
theorem zp_it {K : PySem.W.Frag} {m0 : Mm} {H0 : Hp} {C1 C2 : Hp → List V → Prop} {xs ys : List U} {c1 c2 : List (Nat × List U)}
    (k1 : ∀ m' h' H', Fw m0 H0 m' H' → Sim K m' h' H' → (∀ p ∈ c1, h'[p.1]? = some (.lst p.2)) → ∃ zs, C1 H' zs ∧ RUs K m' H' xs zs)
    (k2 : ∀ m' h' H', Fw m0 H0 m' H' → Sim K m' h' H' → (∀ p ∈ c2, h'[p.1]? = some (.lst p.2)) → ∃ zs, C2 H' zs ∧ RUs K m' H' ys zs) : ItOk K (Izp C1 C2) { items := zipP xs ys, chk := c1 ++ c2 } m0 H0 where
  go := fun i m h H f s hat hi => by
    obtain ⟨z1, a1, r1⟩ := k1 m h H f s fun p hp => hat p (List.mem_append_left _ hp)
    obtain ⟨z2, a2, r2⟩ := k2 m h H f s fun p hp => hat p (List.mem_append_right _ hp)
    refine ⟨z1, z2, a1, a2, ?_⟩
    have hi : i < min xs.length ys.length := by simpa [zipP] using hi
    rw [← r1.length, ← r2.length]; exact hi
  stop := fun i m h H f s hat hi => by
    obtain ⟨z1, a1, r1⟩ := k1 m h H f s fun p hp => hat p (List.mem_append_left _ hp)
    obtain ⟨z2, a2, r2⟩ := k2 m h H f s fun p hp => hat p (List.mem_append_right _ hp)
    refine ⟨z1, z2, a1, a2, ?_⟩
    have hi : i = min xs.length ys.length := by simpa [zipP] using hi
    rw [← r1.length, ← r2.length]; exact hi
  yld := fun i m h H x H' f s hat hi y => by
    obtain ⟨z1, a1, r1⟩ := k1 m h H f s fun p hp => hat p (List.mem_append_left _ hp)
    obtain ⟨z2, a2, r2⟩ := k2 m h H f s fun p hp => hat p (List.mem_append_right _ hp)
    obtain ⟨T, v1, v2, rfl, hT, rfl, g1, g2⟩ := y
    have hi : i < min xs.length ys.length := by simpa [zipP] using hi
    obtain ⟨w1, e1, q1⟩ := r1.get (List.getElem?_eq_getElem (show i < xs.length by omega))
    obtain ⟨w2, e2, q2⟩ := r2.get (List.getElem?_eq_getElem (show i < ys.length by omega))
    have d1 := g1 z1 a1
    have d2 := g2 z2 a2
    rw [e1] at d1
    rw [e2] at d2
    cases d1
    cases d2
    have fr : Fr m H m (upd H T (.tup [v1, v2])) := Fr.new hT
    refine ⟨fr, s.new hT, .tup [xs[i], ys[i]], ?_, T, [v1, v2], rfl, .inl (at_new s hT), RUs.cons (q1.step fr) (RUs.cons (q2.step fr) RUs.nil)⟩
    simp [zipP, hi, List.getElem?_eq_getElem (show i < xs.length by omega), List.getElem?_eq_getElem (show i < ys.length by omega)]
section
variable {X : Cx} {W : WX} {e e2 : Expr} {fs : AM} {p pos tpos : Pos} {elts : List Expr} {kk : Nat}
theorem ii_zip (hg : Gl X "zip") (hm : X.mg "zip" = none) (ha : PA X [e, e2] (TAi X.K W fs)) (hs : starEach [e, e2] X.env = (false, eval e X.env) :: starEach [e2] X.env := by rfl) (hpl : (backTo pos (starEach [e2] X.env)).any (·.1) = false := by rfl) :
    PI X (.Tuple elts kk tpos) (.Call (.Name "zip" p) [e, e2] [] pos) (TIi X.K W (zipU fs)) := by
  refine ⟨fun pins s σ H R I q => ?_⟩
  obtain ⟨ρ, m, h, re, sim, pp⟩ := q
  refine Call_ (ld_blt I hg hm PyProof.Rows.boot_zip (PyProof.Rows.callWith_type1 (thn (ha.run pos pins s σ H (fun vs H1 => ∃ v1 v2 C1 T1 a1 C2 T2 a2 y1 y2, vs = [v1, v2] ∧ Sv X.prog X.w X.K v1 C1 T1 a1 ∧ Sv X.prog X.w X.K v2 C2 T2 a2 ∧ C1 H1 y1 ∧ C2 H1 y2 ∧ R (Izp C1 C2) H1) I
    ⟨ρ, m, h, re, sim, pp.bind.mono (fun us h1 m1 H1 f1 s1 p1 vs rvs => ?_) fun _ _ _ _ _ _ _ z => z⟩) fun us s1 hh => ?_) hs hpl))
  · split at p1
    · rename_i u1 u2
      obtain ⟨v1, t, rfl, r1, r2⟩ := rvs
      obtain ⟨v2, t2, rfl, r2, r3⟩ := r2
      have r3 : t2 = [] := r3
      subst r3
      split at p1
      · rename_i xs c1 ys c2 h1' h2'
        obtain ⟨C1, T1, a1, S1, ⟨y1, hy1⟩, k1⟩ := so_ok (P := X.prog) (w := X.w) s1 r1 h1'
        obtain ⟨C2, T2, a2, S2, ⟨y2, hy2⟩, k2⟩ := so_ok (P := X.prog) (w := X.w) s1 r2 h2'
        exact ⟨v1, v2, C1, T1, a1, C2, T2, a2, y1, y2, rfl, S1, S2, hy1, hy2, p1.here s1 _ (zp_it k1 k2)⟩
      · exact False.elim p1
    · exact False.elim p1
  · obtain ⟨vs, H1, I1, r1, v1, v2, C1, T1, a1, C2, T2, a2, y1, y2, rfl, S1, S2, hy1, hy2, q⟩ := hh
    obtain ⟨u1, u2, rfl, ru1, ru2⟩ := vals2 r1
    obtain ⟨o1, G1, b1, g1, t1, f1⟩ := S1.beg X rfl pins σ s1 H1 y1 u1 I1 hy1 ru1
    obtain ⟨o2, G2, b2, g2, t2, f2⟩ := S2.beg X rfl pins σ s1 H1 y2 u2 I1 hy2 ru2
    refine zip_begins2 b1 b2 g1 g2 fun h' hz hTI hTO e1 e2 hsz hk => wpAny_pyIter_zip hz ?_
    have I2 : Inv X pins σ H1 { s1 with heap := h' } := I1.kept (t' := s1.toks) hk
    refine ⟨s1.heap.objs.size + 4, [s1.heap.objs.size + 4, s1.heap.objs.size + 2, s1.heap.objs.size + 3, s1.heap.objs.size, s1.heap.objs.size + 1], _, _, H1, rfl, I2,
      turn_zp S1 S2 (zip_sep2 f1 f2) (fun z => Nat.lt_irrefl _ (f1 _ z)) (fun z => absurd (f2 _ z) (Nat.not_lt.mpr (Nat.le_succ _))), ⟨hz, hTI, ⟨_, _, hTO⟩, t1 _ _ e1, t2 _ _ e2⟩, fun c hcm => ?_, q⟩
    have hle : s1.heap.objs.size ≤ c := by
      have e' : c = s1.heap.objs.size + 4 ∨ c = s1.heap.objs.size + 2 ∨ c = s1.heap.objs.size + 3 ∨ c = s1.heap.objs.size ∨ c = s1.heap.objs.size + 1 := by simpa using hcm
      rcases e' with z | z | z | z | z
      · rw [z]; exact Nat.le_add_right _ _
      · rw [z]; exact Nat.le_add_right _ _
      · rw [z]; exact Nat.le_add_right _ _
      · rw [z]; exact Nat.le_refl _
      · rw [z]; exact Nat.le_add_right _ _
    exact I1.fpOk hle (I1.hok.fresh hle)
end
end PD

set_option Elab.async false
set_option linter.all false
set_option maxRecDepth 100000
set_option maxHeartbeats 4000000
namespace PD
open PySem PySem.Spec PyProof.Rows L2
section
variable {X : Cx} {W : WX} {tg a b e e2 iter : Expr} {es : List Expr} {fa fb : EM} {fs : AM} {p pos tpos : Pos} {elts : List Expr} {kk k : Nat}
/-- one of two, as the run has it -/
theorem PE.alt {f f1 f2 : EM} (p1 : PE X e (TEi X.K W f1)) (p2 : PE X e (TEi X.K W f2)) (hf : ∀ ρ h, f ρ h = f1 ρ h ∨ f ρ h = f2 ρ h) : PE X e (TEi X.K W f) := ⟨fun pins s σ H Q I q => by
  obtain ⟨ρ, m, h, re, sim, pp⟩ := q
  rcases hf ρ h with e | e
  · exact p1.run pins s σ H Q I ⟨ρ, m, h, re, sim, e ▸ pp⟩
  · exact p2.run pins s σ H Q I ⟨ρ, m, h, re, sim, e ▸ pp⟩⟩
theorem PI.alt {f f1 f2 : Env → IH → R Src} (p1 : PI X tg e (TIi X.K W f1)) (p2 : PI X tg e (TIi X.K W f2)) (hf : ∀ ρ h, f ρ h = f1 ρ h ∨ f ρ h = f2 ρ h) : PI X tg e (TIi X.K W f) := ⟨fun pins s σ H Q I q => by
  obtain ⟨ρ, m, h, re, sim, pp⟩ := q
  rcases hf ρ h with e | e
  · exact p1.run pins s σ H Q I ⟨ρ, m, h, re, sim, e ▸ pp⟩
  · exact p2.run pins s σ H Q I ⟨ρ, m, h, re, sim, e ▸ pp⟩⟩
/-- o[i], whatever o is -/
def isDU (h : IH) : U → Bool
  | .ref n => match h[n]? with
    | some (.dk _) => true
    | _ => false
  | .adr _ => true
  | .dic _ _ => true
  | _ => false
def sbU (tab : Addr → Option (List (Str × U))) (x y : U) (h : IH) : R U := if isDU h x = true then dixU tab x y h else ixU x y h
theorem ie_sub_ {tab : Addr → Option (List (Str × U))} (Bd_ : Bd X W k) (hw : ∀ d t, tab d = some t → Wrt X.K X.w d t) (ha : PE X a (TEi X.K W fa)) (hb : PE X b (TEi X.K W fb)) (hs : NoSl b := by exact fun _ _ => rfl) :
    PE X (.Subscript a b pos) (TEi X.K W (bin (PD.sbU tab) fa fb)) := by
  refine PE.alt (ie_dix Bd_ hw ha hb hs) (ie_ix ha hb hs) fun ρ h => ?_
  unfold bin
  cases fa ρ h with
  | exc C u h1 => exact .inl rfl
  | bad => exact .inl rfl
  | ok x h1 =>
    rw [R.bind_ok, R.bind_ok, R.bind_ok]
    cases fb ρ h1 with
    | exc C u h1 => exact .inl rfl
    | bad => exact .inl rfl
    | ok y h2 =>
      rw [R.bind_ok, R.bind_ok, R.bind_ok]
      unfold PD.sbU
      by_cases hd : isDU h2 x = true
      · rw [if_pos hd]; exact .inl rfl
      · rw [if_neg hd]; exact .inr rfl
/-- for .. in x, whatever x is -/
def walkA (fa : EM) : Env → IH → R Src := fun ρ h => (fa ρ h).bind fun u h1 => match srcU h1 u with
  | some s => .ok s h1
  | none => .bad
theorem ii_any (ha : PE X iter (TEi X.K W fa)) : PI X tg iter (TIi X.K W (walkA fa)) := by
  refine PI.alt (f1 := walkU isT fa) (ii_tup ha) (PI.alt (f := fun ρ h => match fa ρ h with
    | .ok (.str z) h1 => walkU isS fa ρ h
    | _ => walkU isL fa ρ h) (ii_lst ha) (ii_str ha) fun ρ h => ?_) fun ρ h => ?_
  · split
    · exact .inr rfl
    · exact .inl rfl
  · unfold walkA walkU
    cases fa ρ h with
    | exc C u h1 => exact .inl rfl
    | bad => exact .inl rfl
    | ok u h1 =>
      cases u with
      | tup xs => exact .inl rfl
      | lst xs => exact .inr rfl
      | scr xs => exact .inr rfl
      | str z => exact .inr rfl
      | ref n => exact .inr rfl
      | _ => exact .inl rfl
/-- enumerate(x), x a list -/
def enumP (i : Nat) : List U → List U
  | [] => []
  | x :: xs => .tup [.int (i : Int), x] :: enumP (i + 1) xs
theorem enumP_len : ∀ (xs : List U) (i : Nat), (enumP i xs).length = xs.length
  | [], i => rfl
  | x :: xs, i => by
    show (enumP (i + 1) xs).length + 1 = xs.length + 1
    rw [enumP_len xs]
theorem enumP_get : ∀ (xs : List U) (i j : Nat), (enumP i xs)[j]? = (xs[j]?).map fun x => .tup [.int ((i + j : Nat) : Int), x]
  | [], i, j => by simp [enumP]
  | x :: xs, i, 0 => by simp [enumP]
  | x :: xs, i, j + 1 => by
    show (enumP (i + 1) xs)[j]? = _
    rw [enumP_get xs (i + 1) j]
    simp only [List.getElem?_cons_succ]
    congr 1
    funext y
    congr 3
    congr 1
    omega
def enumU (fs : AM) : Env → IH → R Src := fun ρ h => (fs ρ h).bind fun us h1 => match us with
  | [u] => match u with
    | .lst xs => .ok { items := enumP 0 xs } h1
    | .scr xs => .ok { items := enumP 0 xs } h1
    | .ref n => match h1[n]? with
      | some (.lst xs) => .ok { items := enumP 0 xs, chk := [(n, xs)] } h1
      | _ => .bad
    | _ => .bad
  | _ => .bad
theorem en_it {K : PySem.W.Frag} {m0 : Mm} {H0 : Hp} {a : Addr} {xs : List U} {c : List (Nat × List U)} (k1 : ∀ m' h' H', Fw m0 H0 m' H' → Sim K m' h' H' → (∀ p ∈ c, h'[p.1]? = some (.lst p.2)) → ∃ zs, SqL K H' a zs ∧ RUs K m' H' xs zs) :
    ItOk K (Ite K a) { items := enumP 0 xs, chk := c } m0 H0 where
  go := fun i m h H f s hat hi => by
    obtain ⟨zs, q, r⟩ := k1 m h H f s hat
    have hi : i < xs.length := by simpa [enumP_len] using hi
    obtain ⟨y, e, _⟩ := r.get (List.getElem?_eq_getElem hi)
    exact ⟨zs, y, q, e⟩
  stop := fun i m h H f s hat hi => by
    obtain ⟨zs, q, r⟩ := k1 m h H f s hat
    have hi : i = xs.length := by simpa [enumP_len] using hi
    exact ⟨zs, q, by rw [← r.length]; omega⟩
  yld := fun i m h H x H' f s hat hi y => by
    obtain ⟨zs, q, r⟩ := k1 m h H f s hat
    have hi : i < xs.length := by simpa [enumP_len] using hi
    obtain ⟨T, v, rfl, hT, rfl, g⟩ := y
    obtain ⟨w, e, rw_⟩ := r.get (List.getElem?_eq_getElem hi)
    have d := g zs q
    rw [e] at d
    have d : w = v := Option.some.inj d
    subst d
    have fr : Fr m H m (upd H T (.tup [.int (i : Nat), w])) := Fr.new hT
    refine ⟨fr, s.new hT, .tup [.int (i : Int), xs[i]], ?_, T, [.int (i : Nat), w], rfl, .inl (at_new s hT), RUs.cons (show V.int (i : Nat) = V.int (i : Nat) from rfl) (RUs.cons (rw_.step fr) RUs.nil)⟩
    rw [enumP_get, List.getElem?_eq_getElem hi]
    simp
theorem ii_enum (hg : Gl X "enumerate") (hm : X.mg "enumerate" = none) (ha : PA X [e] (TAi X.K W fs)) (hs : starEach [e] X.env = [(false, eval e X.env)] := by rfl) :
    PI X (.Tuple elts kk tpos) (.Call (.Name "enumerate" p) [e] [] pos) (TIi X.K W (enumU fs)) := by
  refine ⟨fun pins s σ H R I q => (pi_enum hg hm ha hs).run pins s σ H R I ?_⟩
  obtain ⟨ρ, m, h, re, sim, pp⟩ := q
  refine ⟨ρ, m, h, re, sim, pp.bind.mono (fun us h1 m1 H1 f1 s1 p1 vs rvs => ?_) fun _ _ _ _ _ _ _ z => z⟩
  split at p1
  · rename_i u
    obtain ⟨v, t, rfl, rv, r2⟩ := rvs
    have r2 : t = [] := r2
    subst r2
    split at p1
    · rename_i xs
      obtain ⟨a, ys, rfl, t, q⟩ := rv
      exact ⟨a, ys, rfl, SqL.of t.h, p1.here s1 _ (en_it fun m' h' H' f s' _ => ⟨ys, SqL.of (f.at_ t).h, q.stepw f⟩)⟩
    · rename_i xs
      obtain ⟨a, ys, rfl, t, q⟩ := rv
      exact ⟨a, ys, rfl, t.sq, p1.here s1 _ (en_it fun m' h' H' f s' _ => ⟨ys, (f.scr t).sq, q.stepw f⟩)⟩
    · rename_i n
      obtain ⟨a, rfl, q⟩ := rv
      split at p1
      · rename_i xs hh
        obtain ⟨ys, e2, r2⟩ := s1.lst hh q
        exact ⟨a, ys, rfl, SqL.of e2, p1.here s1 _ (en_it fun m' h' H' f s' hat => by
          obtain ⟨zs, e3, r3⟩ := s'.lst (hat (n, xs) (by simp)) (f.get q)
          exact ⟨zs, SqL.of e3, r3⟩)⟩
      · exact False.elim p1
    · exact False.elim p1
  · exact False.elim p1
end
end PD

set_option Elab.async false
set_option linter.all false
set_option maxRecDepth 100000
set_option maxHeartbeats 4000000
namespace PD
open PySem PySem.Spec PyProof.Rows L2
/-! ### dict(pairs), the keys whole numbers and None -/
def putG {β : Type} (kvs : List (Option Int × β)) (k : Option Int) (v : β) : List (Option Int × β) := if (kvs.any fun p => decide (p.1 = k)) = true then kvs.map (fun p => if p.1 = k then (p.1, v) else p) else kvs ++ [(k, v)]
def mergeG {β : Type} (kvs more : List (Option Int × β)) : List (Option Int × β) := more.foldl (fun acc p => putG acc p.1 p.2) kvs
abbrev LV : List (Option Int × V) → List (PySem.Leaf × Value) → Prop := Paired fun p q => lfK p.1 = q.1 ∧ RelV p.2 q.2
theorem lfK_inj {a b : Option Int} (h : lfK a = lfK b) : a = b := by
  cases a <;> cases b <;> simp [lfK] at h ⊢
  exact h
theorem LV.any {k : Option Int} : ∀ {kws : List (Option Int × V)} {vs : List (PySem.Leaf × Value)}, LV kws vs → (kws.any fun p => decide (p.1 = k)) = vs.any fun p => decide (p.1 = lfK k)
  | _, _, .nil => rfl
  | _, _, .cons (a := p) (b := q) h t => by
    rw [List.any_cons, List.any_cons, LV.any t]
    congr 1
    rw [← h.1]
    by_cases e : p.1 = k
    · simp [e]
    · have : ¬ lfK p.1 = lfK k := fun z => e (lfK_inj z)
      simp [e, this]
theorem LV.repl {k : Option Int} {v : V} {u : Value} (r : RelV v u) : ∀ {kws : List (Option Int × V)} {vs : List (PySem.Leaf × Value)}, LV kws vs →
    LV (kws.map fun p => if p.1 = k then (p.1, v) else p) (vs.map fun p => if p.1 = lfK k then (p.1, u) else p)
  | _, _, .nil => .nil
  | _, _, .cons (a := p) (b := q) h t => by
    rw [List.map_cons, List.map_cons]
    refine .cons ?_ (LV.repl r t)
    by_cases e : p.1 = k
    · rw [if_pos e, if_pos (by rw [← h.1, e])]
      exact ⟨h.1, r⟩
    · rw [if_neg e, if_neg (by rw [← h.1]; exact fun z => e (lfK_inj z))]
      exact h
theorem LV.snoc {p : Option Int × V} {q : PySem.Leaf × Value} (h : lfK p.1 = q.1 ∧ RelV p.2 q.2) : ∀ {kws : List (Option Int × V)} {vs : List (PySem.Leaf × Value)}, LV kws vs → LV (kws ++ [p]) (vs ++ [q])
  | _, _, .nil => .cons h .nil
  | _, _, .cons h1 t => .cons h1 (LV.snoc h t)
theorem LV.put {k : Option Int} {v : V} {u : Value} {kws : List (Option Int × V)} {vs : List (PySem.Leaf × Value)} (r : LV kws vs) (rv : RelV v u) : LV (putG kws k v) (stored vs (lfK k) u) := by
  unfold putG stored
  rw [r.any]
  split
  · exact r.repl rv
  · exact r.snoc ⟨rfl, rv⟩
theorem LV.merge : ∀ {more : List (Option Int × V)} {mv : List (PySem.Leaf × Value)} {kws : List (Option Int × V)} {vs : List (PySem.Leaf × Value)}, LV more mv → LV kws vs → LV (mergeG kws more) (merged vs mv)
  | _, _, _, _, .nil, r => r
  | _, _, _, _, .cons (a := p) (b := q) h t, r => by
    have e := r.put (k := p.1) h.2
    rw [h.1] at e
    have z := LV.merge t e
    exact z
/-- the hash of such keys is the same in every world -/
theorem dictOf_any {P P' : Program} {w w' : World} {h : Heap} {d : Addr} {kws : List (Option Int × V)} {vs : List (PySem.Leaf × Value)} (r : LV kws vs) (x : h.DictOf (PySem.leafKind P w) d vs) : h.DictOf (PySem.leafKind P' w') d vs := by
  obtain ⟨o, es, ep, ho, hx, hd, hk, hp, hn⟩ := x
  have conv : ∀ {l : List DictEntry} {vs : List (PySem.Leaf × Value)}, PySem.Pairs (PySem.leafKind P w) l vs → PySem.Pairs (PySem.leafKind P' w') l vs := by
    intro l vs hp
    induction hp with
    | nil => exact .nil
    | cons a b _ ih => exact .cons a b ih
  have hp' := conv hp
  have mem : ∀ {l : List DictEntry} {vs : List (PySem.Leaf × Value)}, PySem.Pairs (PySem.leafKind P w) l vs → ∀ e ∈ l, ∃ q ∈ vs, (PySem.leafKind P w).is q.1 e.key = true := by
    intro l vs hp
    induction hp with
    | nil => intro e he; cases he
    | cons a b t ih =>
      intro e he
      rcases List.mem_cons.mp he with rfl | he
      · exact ⟨_, List.mem_cons_self, a⟩
      · obtain ⟨q, hq, z⟩ := ih e he
        exact ⟨q, List.mem_cons_of_mem _ hq, z⟩
  have low : ∀ {kws : List (Option Int × V)} {vs : List (PySem.Leaf × Value)}, LV kws vs → ∀ q ∈ vs, ∃ k, q.1 = lfK k := by
    intro kws vs r
    induction r with
    | nil => intro q hq; cases hq
    | @cons p q ps qs h t ih =>
      intro y hy
      rcases List.mem_cons.mp hy with rfl | hy
      · exact ⟨p.1, h.1.symm⟩
      · exact ih y hy
  refine ⟨o, es, ep, ho, hx, hd, fun e he => ?_, hp', hn⟩
  obtain ⟨k, h1, h2⟩ := hk e he
  obtain ⟨q, hq, h3⟩ := mem hp e (by simpa using he)
  obtain ⟨k0, hk0⟩ := low r q hq
  have ek : k = lfK k0 := by rw [← hk0]; exact (PySem.leafKind P w).inj _ _ _ h1 h3
  subst ek
  refine ⟨lfK k0, h1, h2.trans ?_⟩
  cases k0 <;> rfl
def leafOf : U → Option (Option Int)
  | .non => some none
  | .int i => some (some i)
  | _ => none
def prsN : List U → Option (List (Option Int × U))
  | [] => some []
  | .tup [k, v] :: r => match leafOf k, prsN r with
    | some k, some t => some ((k, v) :: t)
    | _, _ => none
  | _ => none
def dicU (x : U) (h : IH) : R U := match itL h x with
  | some us => match prsN us with
    | some ps => .ok (.dic ((mergeG [] ps).map (·.1)) ((mergeG [] ps).map (·.2))) h
    | none => .bad
  | none => .bad
/-- pairs by pairs -/
structure GR (K : PySem.W.Frag) (m : Mm) (H : Hp) (kvs : List (Option Int × U)) (kws : List (Option Int × V)) : Prop where
  ks : kvs.map (·.1) = kws.map (·.1)
  vs : RUs K m H (kvs.map (·.2)) (kws.map (·.2))
section
variable {K : PySem.W.Frag} {m : Mm} {H : Hp}
theorem GR.nil : GR K m H [] [] := ⟨rfl, RUs.nil⟩
theorem GR.cons {k : Option Int} {u : U} {v : V} {kvs : List (Option Int × U)} {kws : List (Option Int × V)} (a : RU K m H u v) (b : GR K m H kvs kws) : GR K m H ((k, u) :: kvs) ((k, v) :: kws) := ⟨by simp [b.ks], RUs.cons a b.vs⟩
theorem GR.uncons {p : Option Int × U} {kvs : List (Option Int × U)} {kws : List (Option Int × V)} (r : GR K m H (p :: kvs) kws) : ∃ v t, kws = (p.1, v) :: t ∧ RU K m H p.2 v ∧ GR K m H kvs t := by
  cases kws with
  | nil => have := r.ks; simp at this
  | cons q t =>
    obtain ⟨e1, e2⟩ := r
    obtain ⟨v, l, e3, r1, r2⟩ := e2
    simp at e1 e3
    obtain ⟨k, w⟩ := q
    obtain ⟨rfl, rfl⟩ := e3
    exact ⟨w, t, by rw [e1.1], r1, ⟨e1.2, r2⟩⟩
theorem GR.any : ∀ {kvs : List (Option Int × U)} {kws : List (Option Int × V)} {k : Option Int}, GR K m H kvs kws → (kvs.any fun kv => decide (kv.1 = k)) = kws.any fun kv => decide (kv.1 = k)
  | [], kws, k, r => by
    have e : kws = [] := by have := r.ks; cases kws <;> simp_all
    subst e
    rfl
  | p :: kvs, kws, k, r => by
    obtain ⟨v, t, rfl, r1, r2⟩ := r.uncons
    rw [List.any_cons, List.any_cons, GR.any r2]
theorem GR.repl {u : U} {v : V} (rv : RU K m H u v) : ∀ {kvs : List (Option Int × U)} {kws : List (Option Int × V)} {k : Option Int}, GR K m H kvs kws → GR K m H (kvs.map fun kv => if kv.1 = k then (kv.1, u) else kv) (kws.map fun kv => if kv.1 = k then (kv.1, v) else kv)
  | [], kws, k, r => by
    have e : kws = [] := by have := r.ks; cases kws <;> simp_all
    subst e
    exact GR.nil
  | p :: kvs, kws, k, r => by
    obtain ⟨w, t, rfl, r1, r2⟩ := r.uncons
    rw [List.map_cons, List.map_cons]
    by_cases hk : p.1 = k
    · rw [if_pos hk, if_pos hk]
      exact GR.cons rv (GR.repl rv r2)
    · rw [if_neg hk, if_neg (show ¬ (p.1, w).1 = k from hk)]
      exact GR.cons r1 (GR.repl rv r2)
theorem GR.put {u : U} {v : V} {kvs : List (Option Int × U)} {kws : List (Option Int × V)} {k : Option Int} (r : GR K m H kvs kws) (rv : RU K m H u v) : GR K m H (putG kvs k u) (putG kws k v) := by
  unfold putG
  rw [r.any]
  split
  · exact r.repl rv
  · exact ⟨by simp [r.ks], by rw [List.map_append, List.map_append]; exact r.vs.append (RUs.cons rv RUs.nil)⟩
theorem GR.merge : ∀ {more : List (Option Int × U)} {mw : List (Option Int × V)} {kvs : List (Option Int × U)} {kws : List (Option Int × V)}, GR K m H more mw → GR K m H kvs kws → GR K m H (mergeG kvs more) (mergeG kws mw)
  | [], mw, kvs, kws, a, b => by
    have e : mw = [] := by have := a.ks; cases mw <;> simp_all
    subst e
    exact b
  | p :: more, mw, kvs, kws, a, b => by
    obtain ⟨w, t, rfl, r1, r2⟩ := a.uncons
    have z := GR.merge r2 (b.put (k := p.1) r1)
    exact z
def lfV : Option Int → V
  | none => .non
  | some i => .int i
/-- the pairs as they stand -/
theorem prsN_ok : ∀ {us : List U} {ys : List V} {ps : List (Option Int × U)}, prsN us = some ps → RUs K m H us ys → ∃ kws, GR K m H ps kws ∧ kws.length = ys.length ∧ ∀ (j : Nat) (p : Option Int × V), kws[j]? = some p → ∃ b, ys[j]? = some (.ref b) ∧ SqT K H b [lfV p.1, p.2]
  | [], ys, ps, e, r => by
    have r : ys = [] := r
    subst r
    cases e
    exact ⟨[], GR.nil, rfl, fun j p h => by simp at h⟩
  | u :: us, ys, ps, e, r => by
    obtain ⟨y, t, rfl, r1, r2⟩ := r
    unfold prsN at e
    split at e
    · rename_i heq
      cases heq
    · rename_i k v rest heq
      cases heq
      split at e
      · rename_i kk tt hk ht
        cases e
        obtain ⟨kws, g, hl, hq⟩ := prsN_ok ht r2
        obtain ⟨b, zs, rfl, ta, q⟩ := r1
        obtain ⟨y1, t1, rfl, q1, q2⟩ := q
        obtain ⟨y2, t2, rfl, q2, q3⟩ := q2
        have q3 : t2 = [] := q3
        subst q3
        have ey : y1 = lfV kk := by
          cases k with
          | non => have q1 : y1 = .non := q1; cases hk; exact q1
          | int i => have q1 : y1 = .int i := q1; cases hk; exact q1
          | _ => cases hk
        refine ⟨(kk, y2) :: kws, GR.cons q2 g, by simp [hl], fun j p h => ?_⟩
        cases j with
        | zero =>
          have h : (kk, y2) = p := by simpa using h
          subst h
          exact ⟨b, rfl, by rw [← ey]; exact ta.sq⟩
        | succ j => exact hq j p (by simpa using h)
      · cases e
    · cases e
end
section
variable {X : Cx} {W : WX} {a : Expr} {fs : AM} {p pos : Pos}
def rDicN (K : PySem.W.Frag) : List V → Hp → VK → Prop := fun xs H Q => ∃ (l : Addr) (ys : List V) (kws : List (Option Int × V)), xs = [.ref l] ∧ SqL K H l ys ∧ kws.length = ys.length ∧ (∀ (j : Nat) (p : Option Int × V), kws[j]? = some p → ∃ b, ys[j]? = some (.ref b) ∧ SqT K H b [lfV p.1, p.2]) ∧
  ∀ d, H d = none → Q (.ref d) (upd H d (ldO d (mergeG [] kws)))
theorem call_dicN (hc : X.calm = true) : CallR X (.type "dict") (rDicN X.K) := by
  rintro pins s σ H xs us Q I r ⟨l, ys, kws, rfl, hl, hlen, hp, q⟩
  obtain ⟨u, rfl, ru⟩ := vals1 r
  cases (show u = Value.ref l from ru)
  obtain ⟨its, rv, pl, hz⟩ := I.list hl
  -- the pairs' values
  have step : ∀ (kws : List (Option Int × V)) (ys : List V) (its : List Value), Vals ys its → kws.length = ys.length → (∀ (j : Nat) (p : Option Int × V), kws[j]? = some p → ∃ b, ys[j]? = some (.ref b) ∧ SqT X.K H b [lfV p.1, p.2]) →
      ∃ (bs : List Addr) (prs : List (Value × Value)) (lv : List (PySem.Leaf × Value)), LV kws lv ∧ prs.length = kws.length ∧ bs.length = kws.length ∧ lv.length = kws.length ∧
        (∀ j, j < kws.length → ∃ b k v, bs[j]? = some b ∧ prs[j]? = some (k, v) ∧ its[j]? = some (.ref b) ∧ IsTup s.heap b #[k, v] ∧ ∃ lk, lv[j]? = some (lk, v) ∧ (PySem.leafKind X.prog X.w).is lk k = true) := by
    intro kws
    induction kws with
    | nil => exact fun ys its _ _ _ => ⟨[], [], [], .nil, rfl, rfl, rfl, fun j hj => absurd hj (by simp)⟩
    | cons p kws ih =>
      intro ys its rv hlen hp
      cases rv with
      | nil => simp at hlen
      | @cons y it ys its r1 rv =>
        obtain ⟨bs, prs, lv, h1, h2, h3, h5, h4⟩ := ih ys its rv (by simpa using hlen) fun j q e => by
          obtain ⟨b, e1, e2⟩ := hp (j + 1) q (by simpa using e)
          exact ⟨b, by simpa using e1, e2⟩
        obtain ⟨b, e1, e2⟩ := hp 0 p (by simp)
        have e1 : y = .ref b := by simpa using e1
        subst e1
        obtain ⟨ts, rt, ht, _⟩ := I.tuple e2
        obtain ⟨k, v, rfl, rk, rv2⟩ := vals2 rt
        have hkey : (PySem.leafKind X.prog X.w).is (lfK p.1) k = true := by
          cases hh : p.1 with
          | none =>
            rw [hh] at rk
            cases (show k = Value.none from rk)
            rfl
          | some i =>
            rw [hh] at rk
            obtain ⟨t, rfl⟩ := (show ∃ t, k = Value.int i t from rk)
            exact decide_eq_true rfl
        refine ⟨b :: bs, (k, v) :: prs, (lfK p.1, v) :: lv, .cons ⟨rfl, rv2⟩ h1, by simp [h2], by simp [h3], by simp [h5], fun j hj => ?_⟩
        cases j with
        | zero => exact ⟨b, k, v, rfl, rfl, by simpa using (show it = Value.ref b from r1), ht, lfK p.1, rfl, hkey⟩
        | succ j =>
          obtain ⟨b', k', v', g1, g2, g3, g4, lk, g5, g6⟩ := h4 j (by simpa using hj)
          exact ⟨b', k', v', by simpa using g1, by simpa using g2, by simpa using g3, g4, lk, by simpa using g5, g6⟩
  obtain ⟨bs, prs, lv, hLV, n1, n2, n3, hall⟩ := step kws ys its rv hlen hp
  have hT : PySem.PlainSeq "list" s.heap l its.toArray := by
    obtain ⟨o, n, e, c, d, q⟩ := pl
    exact ⟨o, n, e, c, d, q⟩
  have hI : PySem.PairItems s.heap its.toArray (fun j => bs.getD j 0) prs := by
    refine ⟨by simp [n1, hlen, rv.length], fun j k v e => ?_⟩
    have hj : j < kws.length := by rw [← n1]; exact (List.getElem?_eq_some_iff.mp e).1
    obtain ⟨b, k', v', g1, g2, g3, g4, _⟩ := hall j hj
    rw [e] at g2
    cases g2
    have eb : bs.getD j 0 = b := by rw [List.getD_eq_getElem?_getD, g1]; rfl
    dsimp only
    rw [eb]
    obtain ⟨o, e1, c1, n', d1⟩ := g4
    exact ⟨by simpa using g3, .inl ⟨o, e1, c1, n', d1⟩⟩
  refine PySem.call_dict_pairs (knd := PySem.leafKind X.prog X.w) (kvs := lv) (PySem.PairArg.list l its.toArray (fun j => bs.getD j 0) prs) (I.ok.hd hc) ⟨hT, hI⟩ ⟨by rw [n3, n1], fun i k v e => ?_⟩ (by rw [n1, hlen]; exact hz) fun h' tk hd' hk => ?_
  · have hj : i < kws.length := by rw [← n1]; exact (List.getElem?_eq_some_iff.mp e).1
    obtain ⟨b, k', v', g1, g2, g3, g4, lk, g5, g6⟩ := hall i hj
    have e : prs[i]? = some (k, v) := e
    rw [e] at g2
    cases g2
    exact ⟨lk, g5, g6⟩
  · have hm : LV (mergeG [] kws) (merged [] lv) := LV.merge hLV .nil
    have new : ObjOk X.prog X.w (upd H s.heap.objs.size (ldO s.heap.objs.size (mergeG [] kws))) h' s.heap.objs.size (ldO s.heap.objs.size (mergeG [] kws)) := by
      refine ⟨fun P w => ⟨merged [] lv, hm, dictOf_any hm hd'⟩, ?_, fun h1 h2 z kk P w => ?_⟩
      · obtain ⟨o, _, _, ho, _⟩ := hd'
        exact ⟨o, ho⟩
      · obtain ⟨vs, g1, g2⟩ := z P w
        exact ⟨vs, g1, g2.at kk⟩
    exact ⟨.ref s.heap.objs.size, _, I.laid (t' := tk) (fun b o e => hk b o (by simp) e) (Nat.le_refl _) new, rfl, q _ (I.hok.fresh (Nat.le_refl _))⟩
theorem ie_dicN (hc : X.calm = true) (hg : Gl X "dict") (hm : X.mg "dict" = none) (ha : PA X [a] (TAi X.K W fs)) (he : starEach [a] X.env = (false, eval a X.env) :: starEach [] X.env := by rfl) (hpl : (backTo pos (starEach [] X.env)).any (·.1) = false := by rfl) :
    PE X (.Call (.Name "dict" p) [a] [] pos) (TEi X.K W (callA (on1 dicU) fs)) :=
  ie_callTy (call_dicN hc) (on1_noe fun x h C u h' => by
    unfold dicU
    split
    · split <;> (intro z; cases z)
    · intro z; cases z) (on1_ok fun m h H x v Q s r p => by
    unfold dicU at p
    split at p
    · rename_i us hus
      obtain ⟨l, ys, rfl, hq, rr⟩ := itL_ok s hus r
      split at p
      · rename_i ps hps
        obtain ⟨kws, g, hl, hp⟩ := prsN_ok hps rr
        refine ⟨l, ys, kws, rfl, hq, hl, hp, fun d hd => ?_⟩
        have g2 := g.merge GR.nil
        have f : Fr m H m (upd H d (ldO d (mergeG [] kws))) := Fr.new hd
        refine p m _ f (s.new hd) (.ref d) ⟨d, (mergeG [] kws).map (·.2), rfl, ?_, ?_, g2.vs.step f⟩
        · rw [g2.ks]; simp
        · have ez : ((mergeG [] ps).map (·.1)).zip ((mergeG [] kws).map (·.2)) = mergeG [] kws := by
            rw [g2.ks]
            generalize mergeG [] kws = z
            induction z with
            | nil => rfl
            | cons p t ih => simp [ih]
          rw [ez]
          exact at_new s hd
      · exact False.elim p
    · exact False.elim p) hg hm (by decide +kernel) ha (by decide) (by decide) he hpl
end
end PD

set_option Elab.async false
set_option linter.all false
set_option maxRecDepth 100000
set_option maxHeartbeats 4000000
namespace PD
open PySem PySem.Spec PyProof.Rows L2
/-! ### a written dict's keys -/
section
variable {X : Cx} {W : WX} {a e : Expr} {fa : EM} {fs : AM} {p pos : Pos} {x : Str}
def rListW (K : PySem.W.Frag) (w : World) : List V → Hp → VK → Prop := fun xs H Q => ∃ d t, xs = [.ref d] ∧ Wrt K w d t ∧ ∀ l, H l = none → Q (.ref l) (upd H l (.lst (t.map fun p => V.str p.1)))
theorem call_listW (hc : X.calm = true) : CallR X (.type "list") (rListW X.K X.w) := by
  rintro pins s σ H xs us Q I r ⟨d, t, rfl, Wd, q⟩
  obtain ⟨u, rfl, ru⟩ := vals1 r
  cases (show u = Value.ref d from ru)
  obtain ⟨es, n, D, T⟩ := Wd.ex
  have hlen := T.len
  have hs : es.size ≤ sizeLine := by
    have := Wd.sz
    rw [← hlen] at this
    simpa using this
  refine PySem.W.kdl_call (PySem.KdlSrc.rawDict (ep := n) D.low) (I.ok.hd hc) ⟨_, I.kIn _ _ D.at_, ⟨rfl, rfl, rfl⟩, rfl⟩ hs fun h' tk acc' c' hk hget hit => ?_
  have rel : ∃ its : List Value, acc' = its.toArray ∧ Vals (t.map fun p => V.str p.1) its := by
    refine ⟨acc'.toList, by simp, ?_⟩
    obtain ⟨hz, hp⟩ := hit
    have key : ∀ (l : List (Str × U)) (vs : List Value), l.length = vs.length → (∀ (j : Nat) (p : Str × U) (v : Value), l[j]? = some p → vs[j]? = some v → ∃ tk, v = Value.str p.1 tk) → Vals (l.map fun p => V.str p.1) vs := by
      intro l
      induction l with
      | nil =>
        intro vs hl _
        cases vs with
        | nil => exact .nil
        | cons => simp at hl
      | cons p l ih =>
        intro vs hl hj
        cases vs with
        | nil => simp at hl
        | cons v vs =>
          refine .cons ?_ (ih vs (by simpa using hl) fun j p v e1 e2 => hj (j + 1) p v (by simpa using e1) (by simpa using e2))
          obtain ⟨tk, e⟩ := hj 0 p v rfl rfl
          exact ⟨tk, e⟩
    refine key t acc'.toList (by simp [hz, ← hlen]) fun j p v e1 e2 => ?_
    obtain ⟨hi, ev⟩ := hp j v (by simpa using e2)
    obtain ⟨e, tk, g1, g2⟩ := T.at_ e1
    have : es[j] = e := by
      have g1 : es[j]? = some e := by simpa using g1
      rw [Array.getElem?_eq_getElem hi] at g1
      exact Option.some.inj g1
    exact ⟨tk, by rw [ev, this, g2]⟩
  obtain ⟨its, rfl, rv⟩ := rel
  have new : ObjOk X.prog X.w (upd H s.heap.objs.size (.lst (t.map fun p => V.str p.1))) h' s.heap.objs.size (.lst (t.map fun p => V.str p.1)) := ⟨by simpa using Wd.sz, its, c', rv, hget⟩
  exact ⟨.ref s.heap.objs.size, _, I.laid (t' := tk) hk (Nat.le_refl _) new, rfl, q _ (I.hok.fresh (Nat.le_refl _))⟩
def listW (md : Bool) (tab : Addr → Option (List (Str × U))) (x : U) (h : IH) : R U := match x with
  | .adr d => match tab d with
    | some t => putL md (t.map fun p => U.str p.1) h
    | none => .bad
  | x => listU md x h
theorem rus_strs {K : PySem.W.Frag} {m : Mm} {H : Hp} : ∀ t : List (Str × U), RUs K m H (t.map fun p => U.str p.1) (t.map fun p => V.str p.1)
  | [] => RUs.nil
  | p :: t => RUs.cons (show V.str p.1 = V.str p.1 from rfl) (rus_strs t)
theorem ie_listA (md : Bool) {tab : Addr → Option (List (Str × U))} (hw : ∀ d t, tab d = some t → Wrt X.K X.w d t) (hc : X.calm = true) (hg : Gl X "list") (hm : X.mg "list" = none) (ha : PA X [a] (TAi X.K W fs))
    (he : starEach [a] X.env = (false, eval a X.env) :: starEach [] X.env := by rfl) (hpl : (backTo pos (starEach [] X.env)).any (·.1) = false := by rfl) :
    PE X (.Call (.Name "list" p) [a] [] pos) (TEi X.K W (callA (on1 (listW md tab)) fs)) := by
  have h1 : PE X (.Call (.Name "list" p) [a] [] pos) (TEi X.K W (callA (on1 fun x h => match x with
      | .adr d => match tab d with
        | some t => putL md (t.map fun p => U.str p.1) h
        | none => .bad
      | _ => .bad) fs)) := ie_callTy (call_listW hc) (on1_noe fun x h C u h' => by
    split
    · split
      · exact putL_noe
      · intro z; cases z
    · intro z; cases z) (on1_ok fun m h H x v Q s r p => by
    split at p
    · split at p
      · rename_i d _ t ht
        have r : v = .ref d := r
        subst r
        exact ⟨d, t, rfl, hw _ _ ht, putL_ok s (rus_strs t) p⟩
      · exact False.elim p
    · exact False.elim p) hg hm (by decide +kernel) ha (by decide) (by decide) he hpl
  refine PE.alt h1 (ie_list md hc hg hm ha he hpl) fun ρ h => ?_
  unfold callA
  cases fs ρ h with
  | exc C u h1 => exact .inl rfl
  | bad => exact .inl rfl
  | ok xs h1 =>
    rw [R.bind_ok, R.bind_ok, R.bind_ok]
    unfold on1 listW
    split
    · split
      · exact .inl rfl
      · exact .inr rfl
    · exact .inl rfl

/-! ### the names of the module -/
/-- what a name of the module holds -/
structure Glo (K : PySem.W.Frag) (mg : Str → Option Value) (x : Str) (u : U) : Prop where
  ex : ∃ (u0 : Value) (v : V), mg x = some u0 ∧ RelV v u0 ∧ ∀ m H, RU K m H u v
theorem ie_gl {u : U} (g : Glo X.K X.mg x u) (hg : Gl X x) (hd : (x == ("__debug__" : Str)) = false := by decide) : PE X (.Name x pos) (TEi X.K W (cE u)) := by
  obtain ⟨u0, v, hm, r, ru⟩ := g.ex
  exact ie_c (pe_glob hg hm r hd) ru
end

/-! ### the end of a law -/
/-- the law's def at the script -/
theorem law_end {P : Program} {w : World} {K : PySem.W.Frag} {mg mb : Str → Option Value} {k : Nat} {fa a : Addr} {fd : FuncData} {x : Str} {F : List U → IH → R U} {s1 : Shared} {vs : List Value} {ns : List Int}
    (KX : K.In s1.heap) (hns : s1.heap.Ns mainGlobals mg) (hb : s1.heap.Ns builtinsNs mb) (hbb : ∀ x : Str, x ≠ "__name__" → mb x = bootBuiltins x) (hlim : s1.heap.NoLimit) (hg : s1.gens = #[])
    (ha : s1.heap.get? a = some { cls := .type "list", data := .seq vs.toArray }) (hi : IntsAre vs ns) (hl : ns.length ≤ sizeLine) (hr : Room k callerA)
    (G : ∀ base : Heap, K.In base → base.Ns mainGlobals mg → FnG P w K mg base k fa fd [x] (spI K 1 F)) (hbind : ∀ (s : Shared) (u : Value), BindsTo s fd ⟨[u], []⟩ [(x, u)]) (hF : ∃ h', F [.scr (ns.map U.int)] [] = .ok (.bl true) h') :
    codeAny (model P w) callerA (.call (.ref fa) ⟨[.ref a], []⟩) (fun r s' => r = .ok (.ret (.bool true)) ∧ PySem.OldK s1.heap s'.heap ∧ s'.os = s1.os ∧ AllBare s'.gens) s1 := by
  have rv := vals_ints hi
  have lv := hi.length
  -- with the script alone tracked, or nothing
  have core : ∀ H : Hp, Only H → ScrA K ⟨[], []⟩ H a (ns.map V.int) → HOk P w H s1.heap → (∀ b, H b ≠ none → b = a) → (H a ≠ none → K.lookup a = none) →
      codeAny (model P w) callerA (.call (.ref fa) ⟨[.ref a], []⟩) (fun r s' => r = .ok (.ret (.bool true)) ∧ PySem.OldK s1.heap s'.heap ∧ s'.os = s1.os ∧ AllBare s'.gens) s1 := by
    intro H hO hS hok hA hK
    have get : ∀ {b : Addr} {o : Obj}, s1.heap.get? b = some o → H b = none → (hidT s1.heap H).get? b = some o := fun e n => hidT_get e n
    have noD : ∀ {b : Addr} {o : Obj} {es : Array DictEntry} {ep : Nat}, s1.heap.get? b = some o → o.data = .dict es ep → H b = none := fun {b o es ep} e d => by
      cases q : H b with
      | none => rfl
      | some u =>
        obtain rfl := hA b (by rw [q]; simp)
        rw [ha] at e
        cases e
        have d2 : Data.seq vs.toArray _ = Data.dict es ep := d
        cases d2
    have ns2 : ∀ {b : Addr} {m : Str → Option Value}, s1.heap.Ns b m → (hidT s1.heap H).Ns b m := fun {b m} ⟨o, es, ep, e, d, r⟩ => ⟨o, es, ep, get e (noD e d), d, r⟩
    have kb : K.In (hidT s1.heap H) := fun b o e => get (KX b o e) (by
      cases q : H b with
      | none => rfl
      | some u =>
        obtain rfl := hA b (by rw [q]; simp)
        rw [hK (by rw [q]; simp)] at e
        cases e)
    have md : Mod K mg (hidT s1.heap H) := ⟨kb, ns2 hns, ⟨mb, ns2 hb, hbb⟩, let ⟨mc, h1, h2⟩ := hlim; ⟨mc, ns2 h1, h2⟩⟩
    have e0 : Env0 P w K mg (hidT s1.heap H) callerA [] s1 H := ⟨rfl, md, fun b o e => of_hidT e, Nat.le_of_eq (hidT_size _ _), trivial, (fun b z => nomatch z), hok, .of_eq hg⟩
    have ru : ∀ l : List Int, RUs K ⟨[], []⟩ H (l.map U.int) (l.map V.int) := fun l => by
      induction l with
      | nil => exact RUs.nil
      | cons n l ih => exact RUs.cons (show V.int n = V.int n from rfl) ih
    have s0 : Sim K ⟨[], []⟩ [] H := ⟨List.nodup_nil, rfl, fun n a o e => by simp at e, fun a z => nomatch z⟩
    obtain ⟨h', hF⟩ := hF
    refine codeAny_mono ((G _ kb (ns2 hns)).run callerA [] s1 H ⟨[.ref a], []⟩ [.ref a] [.ref a] (fun v _ => v = .bl true) (fun _ _ _ => False) hr rfl e0 (hbind s1 (.ref a)) (.cons rfl .nil)
      ⟨[.scr (ns.map U.int)], ⟨[], []⟩, [], rfl, RUs.cons ⟨a, ns.map V.int, rfl, hS, ru ns⟩ RUs.nil, s0, by rw [hF]; exact fun m' H' _ _ v rv => rv⟩) fun r s2 hq => ?_
    cases r with
    | error e =>
      obtain ⟨_, _, _, _, _, _, _, _, _, _, _, _, z⟩ := hq
      exact z.elim
    | ok fl =>
      cases fl with
      | ret u =>
        obtain ⟨v, H', os, bare, un, hok', r', q⟩ := hq
        have q : v = .bl true := q
        subst q
        obtain rfl : u = Value.bool true := r'
        refine ⟨rfl, PySem.OldK.of_keep fun b o e => ?_, os, bare⟩
        rcases hO b with z | ⟨ob, xs, z⟩
        · exact un.keep b o e z (by intro y; exact nomatch (show b ∈ ([] : List Addr) from y)) (by simp)
        · obtain ⟨e1, _⟩ := hok b _ z
          obtain ⟨e2, _⟩ := hok' b _ (un.frzs b ob _ z)
          rw [e] at e1
          cases e1
          exact e2
      | next => exact False.elim hq
      | brk => exact False.elim hq
      | cont => exact False.elim hq
  cases hk : K.lookup a with
  | some o =>
    have e := KX a o hk
    rw [ha] at e
    cases e
    exact core (fun _ => none) (fun _ => .inl rfl) (.inr ⟨_, vs.toArray, _, hk, rfl, rfl, rfl, by rw [List.size_toArray, lv]; exact hl, by simpa using rv⟩) (fun b u z => nomatch (show (none : Option HO) = some u from z)) (fun b z => absurd rfl z) fun z => absurd rfl z
  | none =>
    refine core (fun b => if b = a then some (.frz { cls := .type "list", data := .seq vs.toArray } (.lst (ns.map V.int))) else none) (fun b => ?_) (.inl ⟨{ cls := .type "list", data := .seq vs.toArray }, if_pos rfl, by simp, by simp⟩) (fun b u z => ?_) (fun b z => ?_) fun _ => hk
    · by_cases hb : b = a
      · exact .inr ⟨_, _, if_pos hb⟩
      · exact .inl (if_neg hb)
    · by_cases hb : b = a
      · have y := (if_pos hb).symm.trans z
        cases y
        subst hb
        exact ⟨ha, by rw [List.length_map]; exact hl, vs, _, rv, ha⟩
      · have y := (if_neg hb).symm.trans z
        cases y
    · by_cases hb : b = a
      · exact hb
      · exact absurd (if_neg hb) z
/-- the goal that the head leaves; B: the bits of the script -/
theorem law_walk {l : PySem.W.OpenLaw} {n k : Nat} {q : Program} {loose : List Str} {XP : (Str → Option Value) → Heap → Prop} {YP : World → Heap → Prop} {d : DefRec} {K : Params → PySem.W.Frag} {x : Str}
    (hn : l.most = some n) (hn2 : n ≤ sizeLine) (hdf : d.params.defaults = []) (hr : Room k callerA) (hY : ∀ (w : World) (h : Heap), YP w h → (K w.params).In h)
    (F : ∀ (w : World) (mg : Str → Option Value) (fa : Addr) (h : Heap), (K w.params).In h → h.Ns mainGlobals mg → mg d.name = some (.ref fa) → ∃ (fd : FuncData) (F : List U → IH → R U), (∀ (s : Shared) (u : Value), BindsTo s fd ⟨[u], []⟩ [(x, u)]) ∧
      (∀ ns : List Int, ns.length ≤ n → (∀ z ∈ ns, Builtin.Int.intBits z ≤ 1048576) → ∃ h', F [.scr (ns.map U.int)] [] = .ok (.bl true) h') ∧ ∀ base : Heap, (K w.params).In base → base.Ns mainGlobals mg → FnG l.prog w (K w.params) mg base k fa fd [x] (spI (K w.params) 1 F)) :
    PySem.W.WalkO q loose XP YP l.row.toRowW d [] (fun f vs => PySem.call f vs) := by
  refine Att.attach_callB hn hdf fun w s0 s1 mg mb fa o pm cd doc a vs ns G Y ho hd hcd hmg hobj hints hlen hbits hg => ?_
  have KX := hY w _ Y
  obtain ⟨fd, F, hb, hF, hG⟩ := F w mg fa _ KX G.T.g hmg
  exact law_end KX G.T.g G.T.b G.T.builtins G.T.nolimit hg hobj hints (Nat.le_trans hlen hn2) hr hG hb (hF ns hlen hbits)
end PD

set_option Elab.async false
set_option linter.all false
set_option maxRecDepth 100000
set_option maxHeartbeats 4000000
namespace PD
open PySem PySem.Spec PyProof.Rows L2
/-! ### the codes, read off from the left: what is left to do stands in a frame -/
def RS.thn (r : RS) (t : SM) : RS := match r with
  | .fl (.nx ρ) h => t ρ h
  | r => r
def RS.fin (r : RS) : R U := match r with
  | .fl (.nx _) h' => .ok .non h'
  | .fl (.rt u) h' => .ok u h'
  | .exc C u _ h' => .exc C u h'
  | _ => .bad
section
variable (ρ ρ' : Env) (h h' : IH) (u : U) (i n : Nat) (s t : SM) (C : Addr)
@[simp] theorem thn_nx : (RS.fl (.nx ρ) h).thn t = t ρ h := rfl
@[simp] theorem thn_rt : (RS.fl (.rt u) h).thn t = .fl (.rt u) h := rfl
@[simp] theorem thn_bk : (RS.fl (.bk ρ) h).thn t = .fl (.bk ρ) h := rfl
@[simp] theorem thn_ct : (RS.fl (.ct ρ) h).thn t = .fl (.ct ρ) h := rfl
@[simp] theorem thn_exc : (RS.exc C u ρ h).thn t = .exc C u ρ h := rfl
@[simp] theorem fin_nx : (RS.fl (.nx ρ) h).fin = .ok .non h := rfl
@[simp] theorem fin_rt : (RS.fl (.rt u) h).fin = .ok u h := rfl
@[simp] theorem fin_exc : (RS.exc C u ρ h).fin = .exc C u h := rfl
@[simp] theorem seq_e : seq s t ρ h = (s ρ h).thn t := by
  unfold seq RS.thn
  cases s ρ h with
  | fl w h1 => cases w <;> rfl
  | _ => rfl
theorem fnR_e (N : Nat) (us : List U) : fnR N n s us h = (s (us.map some ++ List.replicate (N - n) none) h).fin := by
  unfold fnR RS.fin
  cases s (us.map some ++ List.replicate (N - n) none) h with
  | fl w h1 => cases w <;> rfl
  | _ => rfl
@[simp] theorem vE_z : vE 0 (some u :: ρ) h = .ok u h := rfl
@[simp] theorem vE_s (o : Option U) : vE (i + 1) (o :: ρ) h = vE i ρ h := rfl
@[simp] theorem cE_e : cE u ρ h = .ok u h := rfl
end
def bin2 (o : U → U → IH → R U) (x : U) (r : R U) : R U := r.bind fun y h => o x y h
@[simp] theorem bin2_ok (o : U → U → IH → R U) (x : U) (y : U) (h : IH) : bin2 o x (.ok y h) = o x y h := rfl
@[simp] theorem bin2_bad (o : U → U → IH → R U) (x : U) : bin2 o x .bad = .bad := rfl
@[simp] theorem bin2_exc (o : U → U → IH → R U) (x : U) (C : Addr) (u : U) (h : IH) : bin2 o x (.exc C u h) = .exc C u h := rfl
def bin1 (o : U → U → IH → R U) (g : EM) (ρ : Env) (r : R U) : R U := r.bind fun x h => bin2 o x (g ρ h)
@[simp] theorem bin1_ok (o : U → U → IH → R U) (g : EM) (ρ : Env) (x : U) (h : IH) : bin1 o g ρ (.ok x h) = bin2 o x (g ρ h) := rfl
@[simp] theorem bin1_bad (o : U → U → IH → R U) (g : EM) (ρ : Env) : bin1 o g ρ .bad = .bad := rfl
@[simp] theorem bin1_exc (o : U → U → IH → R U) (g : EM) (ρ : Env) (C : Addr) (u : U) (h : IH) : bin1 o g ρ (.exc C u h) = .exc C u h := rfl
@[simp] theorem bin_e (o : U → U → IH → R U) (f g : EM) (ρ : Env) (h : IH) : bin o f g ρ h = bin1 o g ρ (f ρ h) := rfl
def un1 (o : U → IH → R U) (r : R U) : R U := r.bind fun x h => o x h
@[simp] theorem un1_ok (o : U → IH → R U) (x : U) (h : IH) : un1 o (.ok x h) = o x h := rfl
@[simp] theorem un1_bad (o : U → IH → R U) : un1 o .bad = .bad := rfl
@[simp] theorem un1_exc (o : U → IH → R U) (C : Addr) (u : U) (h : IH) : un1 o (.exc C u h) = .exc C u h := rfl
@[simp] theorem un_e (o : U → IH → R U) (f : EM) (ρ : Env) (h : IH) : un o f ρ h = un1 o (f ρ h) := rfl
def callA1 (o : List U → IH → R U) (r : R (List U)) : R U := r.bind fun xs h => o xs h
@[simp] theorem callA1_ok (o : List U → IH → R U) (xs : (List U)) (h : IH) : callA1 o (.ok xs h) = o xs h := rfl
@[simp] theorem callA1_bad (o : List U → IH → R U) : callA1 o .bad = .bad := rfl
@[simp] theorem callA1_exc (o : List U → IH → R U) (C : Addr) (u : U) (h : IH) : callA1 o (.exc C u h) = .exc C u h := rfl
@[simp] theorem callA_e (o : List U → IH → R U) (f : AM) (ρ : Env) (h : IH) : callA o f ρ h = callA1 o (f ρ h) := rfl
@[simp] theorem nilA_e (ρ : Env) (h : IH) : nilA ρ h = .ok [] h := rfl
def consA2 (x : U) (r : R (List U)) : R (List U) := r.bind fun xs h => .ok (x :: xs) h
@[simp] theorem consA2_ok (x : U) (xs : (List U)) (h : IH) : consA2 x (.ok xs h) = .ok (x :: xs) h := rfl
@[simp] theorem consA2_bad (x : U) : consA2 x .bad = .bad := rfl
@[simp] theorem consA2_exc (x : U) (C : Addr) (u : U) (h : IH) : consA2 x (.exc C u h) = .exc C u h := rfl
def consA1 (g : AM) (ρ : Env) (r : R U) : R (List U) := r.bind fun x h => consA2 x (g ρ h)
@[simp] theorem consA1_ok (g : AM) (ρ : Env) (x : U) (h : IH) : consA1 g ρ (.ok x h) = consA2 x (g ρ h) := rfl
@[simp] theorem consA1_bad (g : AM) (ρ : Env) : consA1 g ρ .bad = .bad := rfl
@[simp] theorem consA1_exc (g : AM) (ρ : Env) (C : Addr) (u : U) (h : IH) : consA1 g ρ (.exc C u h) = .exc C u h := rfl
@[simp] theorem consA_e (f : EM) (g : AM) (ρ : Env) (h : IH) : consA f g ρ h = consA1 g ρ (f ρ h) := rfl
def tupE1  (r : R (List U)) : R U := r.bind fun xs h => newT xs h
@[simp] theorem tupE1_ok  (xs : (List U)) (h : IH) : tupE1  (.ok xs h) = newT xs h := rfl
@[simp] theorem tupE1_bad  : tupE1  .bad = .bad := rfl
@[simp] theorem tupE1_exc  (C : Addr) (u : U) (h : IH) : tupE1  (.exc C u h) = .exc C u h := rfl
@[simp] theorem tupE_e (f : AM) (ρ : Env) (h : IH) : tupE f ρ h = tupE1 (f ρ h) := rfl
def lstE1 (md : Bool) (r : R (List U)) : R U := r.bind fun xs h => newL md xs h
@[simp] theorem lstE1_ok (md : Bool) (xs : (List U)) (h : IH) : lstE1 md (.ok xs h) = newL md xs h := rfl
@[simp] theorem lstE1_bad (md : Bool) : lstE1 md .bad = .bad := rfl
@[simp] theorem lstE1_exc (md : Bool) (C : Addr) (u : U) (h : IH) : lstE1 md (.exc C u h) = .exc C u h := rfl
@[simp] theorem lstE_e (md : Bool) (f : AM) (ρ : Env) (h : IH) : lstE md f ρ h = lstE1 md (f ρ h) := rfl
@[simp] theorem noP_e (ρ : Env) (h : IH) : noP ρ h = .ok none h := rfl
def ofI (u : U) (h : IH) : R (Option Int) := match u with
  | .int i => .ok (some i) h
  | _ => .bad
@[simp] theorem ofI_i (i : Int) (h : IH) : ofI (.int i) h = .ok (some i) h := rfl
def someP1  (r : R U) : R (Option Int) := r.bind fun x h => ofI x h
@[simp] theorem someP1_ok  (x : U) (h : IH) : someP1  (.ok x h) = ofI x h := rfl
@[simp] theorem someP1_bad  : someP1  .bad = .bad := rfl
@[simp] theorem someP1_exc  (C : Addr) (u : U) (h : IH) : someP1  (.exc C u h) = .exc C u h := rfl
@[simp] theorem someP_e (f : EM) (ρ : Env) (h : IH) : someP f ρ h = someP1 (f ρ h) := rfl
def slE3 (md : Bool) (x : U) (lo : Option Int) (r : R (Option Int)) : R U := r.bind fun hi h => slU md x lo hi h
@[simp] theorem slE3_ok (md : Bool) (x : U) (lo : Option Int) (hi : (Option Int)) (h : IH) : slE3 md x lo (.ok hi h) = slU md x lo hi h := rfl
@[simp] theorem slE3_bad (md : Bool) (x : U) (lo : Option Int) : slE3 md x lo .bad = .bad := rfl
@[simp] theorem slE3_exc (md : Bool) (x : U) (lo : Option Int) (C : Addr) (u : U) (h : IH) : slE3 md x lo (.exc C u h) = .exc C u h := rfl
def slE2 (md : Bool) (x : U) (q : PM) (ρ : Env) (r : R (Option Int)) : R U := r.bind fun lo h => slE3 md x lo (q ρ h)
@[simp] theorem slE2_ok (md : Bool) (x : U) (q : PM) (ρ : Env) (lo : (Option Int)) (h : IH) : slE2 md x q ρ (.ok lo h) = slE3 md x lo (q ρ h) := rfl
@[simp] theorem slE2_bad (md : Bool) (x : U) (q : PM) (ρ : Env) : slE2 md x q ρ .bad = .bad := rfl
@[simp] theorem slE2_exc (md : Bool) (x : U) (q : PM) (ρ : Env) (C : Addr) (u : U) (h : IH) : slE2 md x q ρ (.exc C u h) = .exc C u h := rfl
def slE1 (md : Bool) (p q : PM) (ρ : Env) (r : R U) : R U := r.bind fun x h => slE2 md x q ρ (p ρ h)
@[simp] theorem slE1_ok (md : Bool) (p q : PM) (ρ : Env) (x : U) (h : IH) : slE1 md p q ρ (.ok x h) = slE2 md x q ρ (p ρ h) := rfl
@[simp] theorem slE1_bad (md : Bool) (p q : PM) (ρ : Env) : slE1 md p q ρ .bad = .bad := rfl
@[simp] theorem slE1_exc (md : Bool) (p q : PM) (ρ : Env) (C : Addr) (u : U) (h : IH) : slE1 md p q ρ (.exc C u h) = .exc C u h := rfl
@[simp] theorem slE_e (md : Bool) (f : EM) (p q : PM) (ρ : Env) (h : IH) : slE md f p q ρ h = slE1 md p q ρ (f ρ h) := rfl
def ofB (u : U) (h : IH) : R Bool := match u with
  | .bl b => .ok b h
  | _ => .bad
@[simp] theorem ofB_b (b : Bool) (h : IH) : ofB (.bl b) h = .ok b h := rfl
def asB1  (r : R U) : R Bool := r.bind fun x h => ofB x h
@[simp] theorem asB1_ok  (x : U) (h : IH) : asB1  (.ok x h) = ofB x h := rfl
@[simp] theorem asB1_bad  : asB1  .bad = .bad := rfl
@[simp] theorem asB1_exc  (C : Addr) (u : U) (h : IH) : asB1  (.exc C u h) = .exc C u h := rfl
@[simp] theorem asB_e (f : EM) (ρ : Env) (h : IH) : asB f ρ h = asB1 (f ρ h) := rfl
def ofT (u : U) (h : IH) : R Bool := match truU h u with
  | some b => .ok b h
  | none => .bad
theorem ofT_s {u : U} {h : IH} {b : Bool} (e : truU h u = some b) : ofT u h = .ok b h := by unfold ofT; rw [e]
@[simp] theorem ofT_b (b : Bool) (h : IH) : ofT (.bl b) h = .ok b h := rfl
@[simp] theorem ofT_n (h : IH) : ofT .non h = .ok false h := rfl
@[simp] theorem ofT_i (i : Int) (h : IH) : ofT (.int i) h = .ok (i != 0) h := rfl
@[simp] theorem ofT_t (xs : List U) (h : IH) : ofT (.tup xs) h = .ok (!xs.isEmpty) h := rfl
@[simp] theorem ofT_l (xs : List U) (h : IH) : ofT (.lst xs) h = .ok (!xs.isEmpty) h := rfl
def tst1  (r : R U) : R Bool := r.bind fun x h => ofT x h
@[simp] theorem tst1_ok  (x : U) (h : IH) : tst1  (.ok x h) = ofT x h := rfl
@[simp] theorem tst1_bad  : tst1  .bad = .bad := rfl
@[simp] theorem tst1_exc  (C : Addr) (u : U) (h : IH) : tst1  (.exc C u h) = .exc C u h := rfl
@[simp] theorem tst_e (f : EM) (ρ : Env) (h : IH) : tst f ρ h = tst1 (f ρ h) := rfl
def andB1 (g : BM) (ρ : Env) (r : R Bool) : R Bool := r.bind fun b h => if b = true then g ρ h else .ok false h
@[simp] theorem andB1_ok (g : BM) (ρ : Env) (b : Bool) (h : IH) : andB1 g ρ (.ok b h) = if b = true then g ρ h else .ok false h := rfl
@[simp] theorem andB1_bad (g : BM) (ρ : Env) : andB1 g ρ .bad = .bad := rfl
@[simp] theorem andB1_exc (g : BM) (ρ : Env) (C : Addr) (u : U) (h : IH) : andB1 g ρ (.exc C u h) = .exc C u h := rfl
@[simp] theorem andB_e (f g : BM) (ρ : Env) (h : IH) : andB f g ρ h = andB1 g ρ (f ρ h) := rfl
def orB1 (g : BM) (ρ : Env) (r : R Bool) : R Bool := r.bind fun b h => if b = true then .ok true h else g ρ h
@[simp] theorem orB1_ok (g : BM) (ρ : Env) (b : Bool) (h : IH) : orB1 g ρ (.ok b h) = if b = true then .ok true h else g ρ h := rfl
@[simp] theorem orB1_bad (g : BM) (ρ : Env) : orB1 g ρ .bad = .bad := rfl
@[simp] theorem orB1_exc (g : BM) (ρ : Env) (C : Addr) (u : U) (h : IH) : orB1 g ρ (.exc C u h) = .exc C u h := rfl
@[simp] theorem orB_e (f g : BM) (ρ : Env) (h : IH) : orB f g ρ h = orB1 g ρ (f ρ h) := rfl
def notB1  (r : R Bool) : R Bool := r.bind fun b h => .ok (!b) h
@[simp] theorem notB1_ok  (b : Bool) (h : IH) : notB1  (.ok b h) = .ok (!b) h := rfl
@[simp] theorem notB1_bad  : notB1  .bad = .bad := rfl
@[simp] theorem notB1_exc  (C : Addr) (u : U) (h : IH) : notB1  (.exc C u h) = .exc C u h := rfl
@[simp] theorem notB_e (f : BM) (ρ : Env) (h : IH) : notB f ρ h = notB1 (f ρ h) := rfl
@[simp] theorem yesB_e (ρ : Env) (h : IH) : yesB ρ h = .ok true h := rfl
def nxtC (o : U → U → IH → R U) (k : EM) (ρ : Env) (y u : U) (h : IH) : R U := match u with
  | .bl true => bin2 o y (k ρ h)
  | .bl false => .ok (.bl false) h
  | _ => .bad
@[simp] theorem nxtC_b (o : U → U → IH → R U) (k : EM) (ρ : Env) (y : U) (b : Bool) (h : IH) : nxtC o k ρ y (.bl b) h = if b = true then bin2 o y (k ρ h) else .ok (.bl false) h := by cases b <;> rfl
def chn3 (o : U → U → IH → R U) (k : EM) (ρ : Env) (y : U) (r : R U) : R U := r.bind fun z h => nxtC o k ρ y z h
@[simp] theorem chn3_ok (o : U → U → IH → R U) (k : EM) (ρ : Env) (y : U) (z : U) (h : IH) : chn3 o k ρ y (.ok z h) = nxtC o k ρ y z h := rfl
@[simp] theorem chn3_bad (o : U → U → IH → R U) (k : EM) (ρ : Env) (y : U) : chn3 o k ρ y .bad = .bad := rfl
@[simp] theorem chn3_exc (o : U → U → IH → R U) (k : EM) (ρ : Env) (y : U) (C : Addr) (u : U) (h : IH) : chn3 o k ρ y (.exc C u h) = .exc C u h := rfl
def chn2 (o o2 : U → U → IH → R U) (k : EM) (ρ : Env) (x : U) (r : R U) : R U := r.bind fun y h => chn3 o2 k ρ y (o x y h)
@[simp] theorem chn2_ok (o o2 : U → U → IH → R U) (k : EM) (ρ : Env) (x : U) (y : U) (h : IH) : chn2 o o2 k ρ x (.ok y h) = chn3 o2 k ρ y (o x y h) := rfl
@[simp] theorem chn2_bad (o o2 : U → U → IH → R U) (k : EM) (ρ : Env) (x : U) : chn2 o o2 k ρ x .bad = .bad := rfl
@[simp] theorem chn2_exc (o o2 : U → U → IH → R U) (k : EM) (ρ : Env) (x : U) (C : Addr) (u : U) (h : IH) : chn2 o o2 k ρ x (.exc C u h) = .exc C u h := rfl
def chn1 (o o2 : U → U → IH → R U) (g k : EM) (ρ : Env) (r : R U) : R U := r.bind fun x h => chn2 o o2 k ρ x (g ρ h)
@[simp] theorem chn1_ok (o o2 : U → U → IH → R U) (g k : EM) (ρ : Env) (x : U) (h : IH) : chn1 o o2 g k ρ (.ok x h) = chn2 o o2 k ρ x (g ρ h) := rfl
@[simp] theorem chn1_bad (o o2 : U → U → IH → R U) (g k : EM) (ρ : Env) : chn1 o o2 g k ρ .bad = .bad := rfl
@[simp] theorem chn1_exc (o o2 : U → U → IH → R U) (g k : EM) (ρ : Env) (C : Addr) (u : U) (h : IH) : chn1 o o2 g k ρ (.exc C u h) = .exc C u h := rfl
@[simp] theorem chn_e (o o2 : U → U → IH → R U) (f g k : EM) (ρ : Env) (h : IH) : chn o o2 f g k ρ h = chn1 o o2 g k ρ (f ρ h) := by
  unfold chn chn1 chn2 chn3
  rfl
def andV (g : EM) (ρ : Env) (u : U) (h : IH) : R U := match u with
  | .bl true => g ρ h
  | .bl false => .ok (.bl false) h
  | _ => .bad
@[simp] theorem andV_b (g : EM) (ρ : Env) (b : Bool) (h : IH) : andV g ρ (.bl b) h = if b = true then g ρ h else .ok (.bl false) h := by cases b <;> rfl
def orV (g : EM) (ρ : Env) (u : U) (h : IH) : R U := match u with
  | .bl true => .ok (.bl true) h
  | .bl false => g ρ h
  | _ => .bad
@[simp] theorem orV_b (g : EM) (ρ : Env) (b : Bool) (h : IH) : orV g ρ (.bl b) h = if b = true then .ok (.bl true) h else g ρ h := by cases b <;> rfl
def notV (u : U) (h : IH) : R U := match u with
  | .bl b => .ok (.bl (!b)) h
  | _ => .bad
@[simp] theorem notV_b (b : Bool) (h : IH) : notV (.bl b) h = .ok (.bl (!b)) h := rfl
def negV (u : U) (h : IH) : R U := match u with
  | .int i => .ok (.int (-i)) h
  | _ => .bad
@[simp] theorem negV_i (i : Int) (h : IH) : negV (.int i) h = .ok (.int (-i)) h := rfl
def andE1 (g : EM) (ρ : Env) (r : R U) : R U := r.bind fun x h => andV g ρ x h
@[simp] theorem andE1_ok (g : EM) (ρ : Env) (x : U) (h : IH) : andE1 g ρ (.ok x h) = andV g ρ x h := rfl
@[simp] theorem andE1_bad (g : EM) (ρ : Env) : andE1 g ρ .bad = .bad := rfl
@[simp] theorem andE1_exc (g : EM) (ρ : Env) (C : Addr) (u : U) (h : IH) : andE1 g ρ (.exc C u h) = .exc C u h := rfl
def orE1 (g : EM) (ρ : Env) (r : R U) : R U := r.bind fun x h => orV g ρ x h
@[simp] theorem orE1_ok (g : EM) (ρ : Env) (x : U) (h : IH) : orE1 g ρ (.ok x h) = orV g ρ x h := rfl
@[simp] theorem orE1_bad (g : EM) (ρ : Env) : orE1 g ρ .bad = .bad := rfl
@[simp] theorem orE1_exc (g : EM) (ρ : Env) (C : Addr) (u : U) (h : IH) : orE1 g ρ (.exc C u h) = .exc C u h := rfl
def notE1  (r : R U) : R U := r.bind fun x h => notV x h
@[simp] theorem notE1_ok  (x : U) (h : IH) : notE1  (.ok x h) = notV x h := rfl
@[simp] theorem notE1_bad  : notE1  .bad = .bad := rfl
@[simp] theorem notE1_exc  (C : Addr) (u : U) (h : IH) : notE1  (.exc C u h) = .exc C u h := rfl
def negE1  (r : R U) : R U := r.bind fun x h => negV x h
@[simp] theorem negE1_ok  (x : U) (h : IH) : negE1  (.ok x h) = negV x h := rfl
@[simp] theorem negE1_bad  : negE1  .bad = .bad := rfl
@[simp] theorem negE1_exc  (C : Addr) (u : U) (h : IH) : negE1  (.exc C u h) = .exc C u h := rfl
@[simp] theorem andE_e (f g : EM) (ρ : Env) (h : IH) : andE f g ρ h = andE1 g ρ (f ρ h) := by
  unfold andE andE1 andV
  rfl
@[simp] theorem orE_e (f g : EM) (ρ : Env) (h : IH) : orE f g ρ h = orE1 g ρ (f ρ h) := by
  unfold orE orE1 orV
  rfl
@[simp] theorem notE_e (f : EM) (ρ : Env) (h : IH) : notE f ρ h = notE1 (f ρ h) := by
  unfold notE notE1 notV
  rfl
@[simp] theorem negE_e (f : EM) (ρ : Env) (h : IH) : negE f ρ h = negE1 (f ρ h) := by
  unfold negE negE1 negV
  rfl
def ifE1 (f g : EM) (ρ : Env) (r : R Bool) : R U := r.bind fun b h => if b = true then f ρ h else g ρ h
@[simp] theorem ifE1_ok (f g : EM) (ρ : Env) (b : Bool) (h : IH) : ifE1 f g ρ (.ok b h) = if b = true then f ρ h else g ρ h := rfl
@[simp] theorem ifE1_bad (f g : EM) (ρ : Env) : ifE1 f g ρ .bad = .bad := rfl
@[simp] theorem ifE1_exc (f g : EM) (ρ : Env) (C : Addr) (u : U) (h : IH) : ifE1 f g ρ (.exc C u h) = .exc C u h := rfl
@[simp] theorem ifE_e (t : BM) (f g : EM) (ρ : Env) (h : IH) : ifE t f g ρ h = ifE1 f g ρ (t ρ h) := rfl
def callF1 (n : Nat) (F : List U → IH → R U) (r : R (List U)) : R U := r.bind fun us h => if us.length = n then F us h else .bad
@[simp] theorem callF1_ok (n : Nat) (F : List U → IH → R U) (us : (List U)) (h : IH) : callF1 n F (.ok us h) = if us.length = n then F us h else .bad := rfl
@[simp] theorem callF1_bad (n : Nat) (F : List U → IH → R U) : callF1 n F .bad = .bad := rfl
@[simp] theorem callF1_exc (n : Nat) (F : List U → IH → R U) (C : Addr) (u : U) (h : IH) : callF1 n F (.exc C u h) = .exc C u h := rfl
@[simp] theorem callF_e (n : Nat) (F : List U → IH → R U) (f : AM) (ρ : Env) (h : IH) : callF n F f ρ h = callF1 n F (f ρ h) := rfl
def callK1 (n l : Nat) (ix : List Nat) (F : List U → IH → R U) (r : R (List U)) : R U := r.bind fun us h => if us.length = l ∧ (pick us ix).length = n then F (pick us ix) h else .bad
@[simp] theorem callK1_ok (n l : Nat) (ix : List Nat) (F : List U → IH → R U) (us : (List U)) (h : IH) : callK1 n l ix F (.ok us h) = if us.length = l ∧ (pick us ix).length = n then F (pick us ix) h else .bad := rfl
@[simp] theorem callK1_bad (n l : Nat) (ix : List Nat) (F : List U → IH → R U) : callK1 n l ix F .bad = .bad := rfl
@[simp] theorem callK1_exc (n l : Nat) (ix : List Nat) (F : List U → IH → R U) (C : Addr) (u : U) (h : IH) : callK1 n l ix F (.exc C u h) = .exc C u h := rfl
@[simp] theorem callK_e (n l : Nat) (ix : List Nat) (F : List U → IH → R U) (f : AM) (ρ : Env) (h : IH) : callK n l ix F f ρ h = callK1 n l ix F (f ρ h) := rfl
def srcW (u : U) (h : IH) : R Src := match srcU h u with
  | some s => .ok s h
  | none => .bad
@[simp] theorem srcW_t (xs : List U) (h : IH) : srcW (.tup xs) h = .ok { items := xs } h := rfl
@[simp] theorem srcW_l (xs : List U) (h : IH) : srcW (.lst xs) h = .ok { items := xs } h := rfl
@[simp] theorem srcW_s (xs : List U) (h : IH) : srcW (.scr xs) h = .ok { items := xs } h := rfl
@[simp] theorem srcW_str (z : Str) (h : IH) : srcW (.str z) h = .ok { items := z.cps.toList.map fun c => .str ⟨#[c]⟩ } h := rfl
def walk1  (r : R U) : R Src := r.bind fun u h => srcW u h
@[simp] theorem walk1_ok  (u : U) (h : IH) : walk1  (.ok u h) = srcW u h := rfl
@[simp] theorem walk1_bad  : walk1  .bad = .bad := rfl
@[simp] theorem walk1_exc  (C : Addr) (u : U) (h : IH) : walk1  (.exc C u h) = .exc C u h := rfl
@[simp] theorem walkA_e (f : EM) (ρ : Env) (h : IH) : walkA f ρ h = walk1 (f ρ h) := rfl
@[simp] theorem nxS_e (ρ : Env) (h : IH) : nxS ρ h = .fl (.nx ρ) h := rfl
@[simp] theorem bkS_e (ρ : Env) (h : IH) : bkS ρ h = .fl (.bk ρ) h := rfl
@[simp] theorem ctS_e (ρ : Env) (h : IH) : ctS ρ h = .fl (.ct ρ) h := rfl
def retS1 (ρ : Env) (r : R U) : RS := r.st ρ fun u h => .fl (.rt u) h
@[simp] theorem retS1_ok (ρ : Env) (u : U) (h : IH) : retS1 ρ (.ok u h) = .fl (.rt u) h := rfl
@[simp] theorem retS1_bad (ρ : Env) : retS1 ρ .bad = .bad := rfl
@[simp] theorem retS1_exc (ρ : Env) (C : Addr) (u : U) (h : IH) : retS1 ρ (.exc C u h) = .exc C u ρ h := rfl
@[simp] theorem retS_e (f : EM) (ρ : Env) (h : IH) : retS f ρ h = retS1 ρ (f ρ h) := rfl
def exprS1 (ρ : Env) (r : R U) : RS := r.st ρ fun u h => .fl (.nx ρ) h
@[simp] theorem exprS1_ok (ρ : Env) (u : U) (h : IH) : exprS1 ρ (.ok u h) = .fl (.nx ρ) h := rfl
@[simp] theorem exprS1_bad (ρ : Env) : exprS1 ρ .bad = .bad := rfl
@[simp] theorem exprS1_exc (ρ : Env) (C : Addr) (u : U) (h : IH) : exprS1 ρ (.exc C u h) = .exc C u ρ h := rfl
@[simp] theorem exprS_e (f : EM) (ρ : Env) (h : IH) : exprS f ρ h = exprS1 ρ (f ρ h) := rfl
def ifS1 (s t : SM) (ρ : Env) (r : R Bool) : RS := r.st ρ fun b h => if b = true then s ρ h else t ρ h
@[simp] theorem ifS1_ok (s t : SM) (ρ : Env) (b : Bool) (h : IH) : ifS1 s t ρ (.ok b h) = if b = true then s ρ h else t ρ h := rfl
@[simp] theorem ifS1_bad (s t : SM) (ρ : Env) : ifS1 s t ρ .bad = .bad := rfl
@[simp] theorem ifS1_exc (s t : SM) (ρ : Env) (C : Addr) (u : U) (h : IH) : ifS1 s t ρ (.exc C u h) = .exc C u ρ h := rfl
@[simp] theorem ifS_e (a : BM) (s t : SM) (ρ : Env) (h : IH) : ifS a s t ρ h = ifS1 s t ρ (a ρ h) := rfl
def asg2 (ρ : Env) (r : R Env) : RS := r.st ρ fun q h => .fl (.nx q) h
@[simp] theorem asg2_ok (ρ q : Env) (h : IH) : asg2 ρ (.ok q h) = .fl (.nx q) h := rfl
@[simp] theorem asg2_bad (ρ : Env) : asg2 ρ .bad = .bad := rfl
def asg1 (G : GM) (ρ : Env) (r : R U) : RS := r.st ρ fun u h => asg2 ρ (G u ρ h)
@[simp] theorem asg1_ok (G : GM) (ρ : Env) (u : U) (h : IH) : asg1 G ρ (.ok u h) = asg2 ρ (G u ρ h) := rfl
@[simp] theorem asg1_bad (G : GM) (ρ : Env) : asg1 G ρ .bad = .bad := rfl
@[simp] theorem asg1_exc (G : GM) (ρ : Env) (C : Addr) (u : U) (h : IH) : asg1 G ρ (.exc C u h) = .exc C u ρ h := rfl
@[simp] theorem asgS_e (f : EM) (G : GM) (ρ : Env) (h : IH) : asgS f G ρ h = asg1 G ρ (f ρ h) := rfl
@[simp] theorem nmG_e (i : Nat) (u : U) (ρ : Env) (h : IH) : nmG i u ρ h = .ok (ρ.set i (some u)) h := rfl
def raise1 (C0 : Addr) (ρ : Env) (r : R U) : RS := r.st ρ fun u h => .exc C0 u ρ h
@[simp] theorem raise1_ok (C0 : Addr) (ρ : Env) (u : U) (h : IH) : raise1 C0 ρ (.ok u h) = .exc C0 u ρ h := rfl
@[simp] theorem raise1_bad (C0 : Addr) (ρ : Env) : raise1 C0 ρ .bad = .bad := rfl
@[simp] theorem raise1_exc (C0 : Addr) (ρ : Env) (C : Addr) (u : U) (h : IH) : raise1 C0 ρ (.exc C u h) = .exc C u ρ h := rfl
@[simp] theorem raiseS_e (C0 : Addr) (f : EM) (ρ : Env) (h : IH) : raiseS C0 f ρ h = raise1 C0 ρ (f ρ h) := rfl
noncomputable def for1 (G : GM) (s : SM) (ρ : Env) (r : R Src) : RS := r.st ρ fun q h => forGo q G s q.items ρ h
@[simp] theorem for1_ok (G : GM) (s : SM) (ρ : Env) (q : Src) (h : IH) : for1 G s ρ (.ok q h) = forGo q G s q.items ρ h := rfl
@[simp] theorem forS_e (F : Env → IH → R Src) (G : GM) (s : SM) (ρ : Env) (h : IH) : forS F G s ρ h = for1 G s ρ (F ρ h) := rfl
noncomputable def comp2 (md : Bool) (r : R (List U)) : R U := r.bind fun ys h => putL md ys h
@[simp] theorem comp2_ok (md : Bool) (ys : List U) (h : IH) : comp2 md (.ok ys h) = putL md ys h := rfl
noncomputable def comp1 (md : Bool) (own : List Nat) (G : GM) (a : BM) (f : EM) (ρ : Env) (r : R Src) : R U := r.bind fun s h => comp2 md (compGo s G a f (wipeE ρ own) s.items h [])
@[simp] theorem comp1_ok (md : Bool) (own : List Nat) (G : GM) (a : BM) (f : EM) (ρ : Env) (s : Src) (h : IH) : comp1 md own G a f ρ (.ok s h) = comp2 md (compGo s G a f (wipeE ρ own) s.items h []) := rfl
@[simp] theorem compE_e (md : Bool) (own : List Nat) (F : Env → IH → R Src) (G : GM) (a : BM) (f : EM) (ρ : Env) (h : IH) : compE md own F G a f ρ h = comp1 md own G a f ρ (F ρ h) := rfl
section
variable (h : IH) (i j : Int) (x y : U) (xs ys : List U) (p q : Str)
@[simp] theorem on1_e (o : U → IH → R U) : on1 o [x] h = o x h := rfl
@[simp] theorem on2_e (o : U → U → IH → R U) : on2 o [x, y] h = o x y h := rfl
@[simp] theorem lt_e : ltU (.int i) (.int j) h = .ok (.bl (decide (i < j))) h := rfl
@[simp] theorem le_e : leU (.int i) (.int j) h = .ok (.bl (decide (i ≤ j))) h := rfl
@[simp] theorem gt_e : gtU (.int i) (.int j) h = .ok (.bl (decide (j < i))) h := rfl
@[simp] theorem ge_e : geU (.int i) (.int j) h = .ok (.bl (decide (j ≤ i))) h := rfl
@[simp] theorem add_i (md : Bool) : addU md (.int i) (.int j) h = .ok (.int (i + j)) h := rfl
@[simp] theorem sub_i : subU (.int i) (.int j) h = .ok (.int (i - j)) h := by simp [intOp]
theorem mul_i (md : Bool) (e : mulC i j = true) : mulU md (.int i) (.int j) h = .ok (.int (i * j)) h := by
  show (if mulC i j = true then R.ok (U.int (i * j)) h else .bad) = _
  rw [if_pos e]
@[simp] theorem mod_i (e : 0 < j) : modU (.int i) (.int j) h = .ok (.int (i % j)) h := by simp [intOp, e]
@[simp] theorem div_i (e : 0 < j) (e2 : j < 1073741824) : divU (.int i) (.int j) h = .ok (.int (i / j)) h := by simp [intOp, e, e2]
theorem pow_i (e : 0 ≤ j) (e2 : j ≤ 1000000) (e3 : i.natAbs < 2 ^ 64) : powU (.int i) (.int j) h = .ok (.int (i ^ j.toNat)) h := by simp [intOp, e, e2]; omega
@[simp] theorem len_t : lenU (.tup xs) h = .ok (.int xs.length) h := rfl
@[simp] theorem len_l : lenU (.lst xs) h = .ok (.int xs.length) h := rfl
@[simp] theorem len_s : lenU (.scr xs) h = .ok (.int xs.length) h := rfl
@[simp] theorem int_i : intU (.int i) h = .ok (.int i) h := rfl
@[simp] theorem int_b (b : Bool) : intU (.bl b) h = .ok (.int (if b = true then 1 else 0)) h := rfl
theorem newT_e (e : xs.length ≤ sizeLine) : newT xs h = .ok (.tup xs) h := by unfold newT; rw [if_pos e]
theorem newL_f (e : xs.length ≤ sizeLine) : newL false xs h = .ok (.lst xs) h := by unfold newL; rw [if_pos e]; rfl
theorem newL_t (e : xs.length ≤ sizeLine) : newL true xs h = .ok (.ref h.length) (h ++ [.lst xs]) := by unfold newL; rw [if_pos e]; rfl
@[simp] theorem putL_f : putL false xs h = .ok (.lst xs) h := rfl
@[simp] theorem putL_t : putL true xs h = .ok (.ref h.length) (h ++ [.lst xs]) := rfl
/-- what is picked of items -/
def nthU (xs : List U) (i : Int) (h : IH) : R U := match atI xs i with
  | some u => .ok u h
  | none => .bad
@[simp] theorem sb_t (tab : Addr → Option (List (Str × U))) : sbU tab (.tup xs) (.int i) h = nthU xs i h := rfl
@[simp] theorem sb_l (tab : Addr → Option (List (Str × U))) : sbU tab (.lst xs) (.int i) h = nthU xs i h := rfl
@[simp] theorem sb_s (tab : Addr → Option (List (Str × U))) : sbU tab (.scr xs) (.int i) h = nthU xs i h := rfl
theorem sb_r {tab : Addr → Option (List (Str × U))} {n : Nat} (e : h[n]? = some (.lst xs)) : sbU tab (.ref n) (.int i) h = nthU xs i h := by
  simp only [sbU, isDU, e, ixU, itL, nthU]
  cases atI xs i <;> rfl
theorem nth_n (k : Nat) : nthU xs (k : Int) h = match xs[k]? with
  | some u => .ok u h
  | none => .bad := by
  unfold nthU atI ixN
  by_cases e : k < xs.length
  · simp [e]
  · simp [e]
@[simp] theorem nth_0 : nthU (x :: xs) 0 h = .ok x h := nth_n h (x :: xs) 0
theorem nth_g (k : Nat) (e : xs[k]? = some x) : nthU xs (k : Int) h = .ok x h := by rw [nth_n, e]
end
end PD

set_option Elab.async false
set_option linter.all false
set_option maxRecDepth 100000
set_option maxHeartbeats 4000000
namespace PD
open PySem PySem.Spec PyProof.Rows L2
/-! ### what a call lets go -/
theorem lows_all {n : Nat} : ∀ {xs : List U}, lows n xs = true ↔ ∀ x ∈ xs, low n x = true
  | [] => by simp [lows]
  | x :: xs => by
    show (low n x && lows n xs) = true ↔ _
    rw [Bool.and_eq_true, lows_all (xs := xs)]
    simp
theorem map_same {α : Type} {f : α → α} : ∀ {xs : List α}, (∀ x ∈ xs, f x = x) → xs.map f = xs
  | [], _ => rfl
  | x :: xs, e => by
    rw [List.map_cons, e x (by simp), map_same fun y hy => e y (by simp [hy])]
theorem frz_low {h : IH} {n : Nat} : ∀ (f : Nat) {u : U}, low n u = true → frz h n f u = u
  | 0, _, _ => rfl
  | f + 1, u, e => by
    cases u with
    | ref k =>
      have e : decide (k < n) = true := e
      show (if k < n then U.ref k else _) = _
      rw [if_pos (of_decide_eq_true e)]
    | tup xs =>
      show U.tup (xs.map (frz h n f)) = _
      rw [map_same fun x hx => frz_low f (lows_all.mp e x hx)]
    | lst xs =>
      show U.lst (xs.map (frz h n f)) = _
      rw [map_same fun x hx => frz_low f (lows_all.mp e x hx)]
    | _ => rfl
theorem kpt_same {h : IH} : Kpt h h := ⟨Nat.le_refl _, fun i _ => .inl rfl⟩
theorem kpt_grow {h g : IH} : Kpt h (h ++ g) := ⟨by simp, fun i hi => .inl (by rw [List.getElem?_append_left hi])⟩
theorem kpt_set {h g : IH} {n : Nat} {o : O} (l : lowO h.length o = true) : Kpt h (h.set n o ++ g) := by
  refine ⟨by simp, fun i hi => ?_⟩
  rw [List.getElem?_append_left (by simpa using hi), List.getElem?_set]
  by_cases e : n = i
  · subst e
    rw [if_pos rfl, if_pos hi]
    exact .inr ⟨o, rfl, l⟩
  · rw [if_neg e]; exact .inl rfl
theorem pop_kpt {F : List U → IH → R U} {us : List U} {h h' : IH} {u : U} (e : F us h = .ok u h') (k : Kpt h h') (l : low h.length u = true) : popF F us h = .ok u (h'.take h.length) := by
  unfold popF pop
  rw [e]
  dsimp only
  rw [frz_low 3 l, if_pos ⟨k, l⟩]
theorem pop_same {F : List U → IH → R U} {us : List U} {h : IH} {u : U} (e : F us h = .ok u h) (l : low h.length u = true) : popF F us h = .ok u h := by
  rw [pop_kpt e kpt_same l, List.take_length]
theorem pop_grow {F : List U → IH → R U} {us : List U} {h g : IH} {u : U} (e : F us h = .ok u (h ++ g)) (l : low h.length u = true) : popF F us h = .ok u h := by
  rw [pop_kpt e kpt_grow l, List.take_left]
theorem pop_set {F : List U → IH → R U} {us : List U} {h g : IH} {n : Nat} {o : O} {u : U} (e : F us h = .ok u (h.set n o ++ g)) (lo : lowO h.length o = true) (l : low h.length u = true) : popF F us h = .ok u (h.set n o) := by
  rw [pop_kpt e (kpt_set lo) l]
  rw [show h.length = (h.set n o).length by simp, List.take_left]
theorem pop_exc {F : List U → IH → R U} {us : List U} {h : IH} {C : Addr} {u : U} (e : F us h = .exc C u h) (l : low h.length u = true) : popF F us h = .exc C u h := by
  unfold popF pop
  rw [e]
  dsimp only
  rw [frz_low 3 l, if_pos ⟨kpt_same, l⟩, List.take_length]
theorem pop_exc_grow {F : List U → IH → R U} {us : List U} {h g : IH} {C : Addr} {u : U} (e : F us h = .exc C u (h ++ g)) (l : low h.length u = true) : popF F us h = .exc C u h := by
  unfold popF pop
  rw [e]
  dsimp only
  rw [frz_low 3 l, if_pos ⟨kpt_grow, l⟩, List.take_left]
/-! ### loops and comprehensions -/
theorem At_nil {xs : List U} {h : IH} : Src.At { items := xs } h := fun _ p => by cases p
theorem forGo_nil {s : Src} {g : GM} {b : SM} {ρ : Env} {h : IH} (a : s.At h) : forGo s g b [] ρ h = .fl (.nx ρ) h := by
  unfold forGo
  rw [if_pos a]
/-- after a turn -/
noncomputable def turn (s : Src) (g : GM) (b : SM) (xs : List U) (r : RS) : RS := match r with
  | .fl (.nx ρ2) h2 => forGo s g b xs ρ2 h2
  | .fl (.ct ρ2) h2 => forGo s g b xs ρ2 h2
  | .fl (.bk ρ2) h2 => .fl (.nx ρ2) h2
  | r => r
section
variable (s : Src) (g : GM) (b : SM) (xs : List U) (ρ : Env) (h : IH) (u : U) (C : Addr)
@[simp] theorem turn_nx : turn s g b xs (.fl (.nx ρ) h) = forGo s g b xs ρ h := rfl
@[simp] theorem turn_ct : turn s g b xs (.fl (.ct ρ) h) = forGo s g b xs ρ h := rfl
@[simp] theorem turn_bk : turn s g b xs (.fl (.bk ρ) h) = .fl (.nx ρ) h := rfl
@[simp] theorem turn_rt : turn s g b xs (.fl (.rt u) h) = .fl (.rt u) h := rfl
@[simp] theorem turn_exc : turn s g b xs (.exc C u ρ h) = .exc C u ρ h := rfl
end
def gthen (b : SM) (ρ : Env) (r : R Env) : RS := r.st ρ fun ρ1 h1 => b ρ1 h1
@[simp] theorem gthen_ok (b : SM) (ρ ρ1 : Env) (h : IH) : gthen b ρ (.ok ρ1 h) = b ρ1 h := rfl
theorem forGo_cons {s : Src} {g : GM} {b : SM} {ρ : Env} {h : IH} {x : U} {xs : List U} (a : s.At h) : forGo s g b (x :: xs) ρ h = turn s g b xs (gthen b ρ (g x ρ h)) := by
  conv => lhs; unfold forGo
  rw [if_pos a]
  unfold gthen turn
  cases g x ρ h with
  | ok ρ1 h1 =>
    simp only [R.st_ok]
    all_goals rfl
  | exc C u h1 => rfl
  | bad => rfl
theorem compGo_nil {s : Src} {g : GM} {t : BM} {e : EM} {ρ : Env} {h : IH} {acc : List U} (a : s.At h) : compGo s g t e ρ [] h acc = .ok acc h := by
  unfold compGo
  rw [if_pos a]
noncomputable def cmp3 (s : Src) (g : GM) (t : BM) (e : EM) (ρ : Env) (xs acc : List U) (r : R U) : R (List U) := (noX r).bind fun y h3 => if acc.length < sizeLine then compGo s g t e ρ xs h3 (acc ++ [y]) else .bad
noncomputable def cmp2 (s : Src) (g : GM) (t : BM) (e : EM) (ρ ρ1 : Env) (xs acc : List U) (r : R Bool) : R (List U) := (noX r).bind fun b h2 => if b = true then cmp3 s g t e ρ xs acc (e ρ1 h2) else compGo s g t e ρ xs h2 acc
noncomputable def cmp1 (s : Src) (g : GM) (t : BM) (e : EM) (ρ : Env) (xs acc : List U) (r : R Env) : R (List U) := (noX r).bind fun ρ1 h1 => cmp2 s g t e ρ ρ1 xs acc (t ρ1 h1)
section
variable (s : Src) (g : GM) (t : BM) (e : EM) (ρ ρ1 : Env) (xs acc : List U) (h : IH)
@[simp] theorem cmp3_ok (y : U) : cmp3 s g t e ρ xs acc (.ok y h) = if acc.length < sizeLine then compGo s g t e ρ xs h (acc ++ [y]) else .bad := rfl
@[simp] theorem cmp2_ok (b : Bool) : cmp2 s g t e ρ ρ1 xs acc (.ok b h) = if b = true then cmp3 s g t e ρ xs acc (e ρ1 h) else compGo s g t e ρ xs h acc := rfl
@[simp] theorem cmp1_ok : cmp1 s g t e ρ xs acc (.ok ρ1 h) = cmp2 s g t e ρ ρ1 xs acc (t ρ1 h) := rfl
end
theorem compGo_cons {s : Src} {g : GM} {t : BM} {e : EM} {ρ : Env} {h : IH} {x : U} {xs acc : List U} (a : s.At h) : compGo s g t e ρ (x :: xs) h acc = cmp1 s g t e ρ xs acc (g x ρ h) := by
  conv => lhs; unfold compGo
  rw [if_pos a]
  rfl
/-- a comprehension whose parts do no more than tell values -/
theorem compGo_pure {s : Src} {g : GM} {t : BM} {e : EM} {ρ : Env} {h : IH} {p : U → Bool} {f : U → U} {G : U → Env} (a : s.At h) : ∀ (xs acc : List U),
    (∀ x ∈ xs, g x ρ h = .ok (G x) h ∧ t (G x) h = .ok (p x) h ∧ (p x = true → e (G x) h = .ok (f x) h)) → acc.length + xs.length ≤ sizeLine →
    compGo s g t e ρ xs h acc = .ok (acc ++ (xs.filter p).map f) h
  | [], acc, _, _ => by rw [compGo_nil a]; simp
  | x :: xs, acc, hx, hl => by
    obtain ⟨h1, h2, h3⟩ := hx x (by simp)
    have hl : acc.length + (xs.length + 1) ≤ sizeLine := hl
    rw [compGo_cons a, h1, cmp1_ok, h2, cmp2_ok]
    cases q : p x with
    | true =>
      rw [if_pos rfl, h3 q, cmp3_ok, if_pos (by omega), compGo_pure a xs _ (fun y hy => hx y (by simp [hy])) (by rw [List.length_append]; simp; omega)]
      simp [q]
    | false =>
      rw [if_neg (by simp), compGo_pure a xs _ (fun y hy => hx y (by simp [hy])) (by omega)]
      simp [q]
end PD

set_option Elab.async false
set_option linter.all false
set_option maxRecDepth 100000
set_option maxHeartbeats 4000000
namespace PD
open PySem PySem.Spec PyProof.Rows L2
/-! ### texts that are written -/
@[simp] theorem ofs_eq (a b : String) : (Str.ofString a = Str.ofString b) = (a = b) := by
  rw [Str.ofString_eq_toList, Str.ofString_eq_toList]
  apply propext
  constructor
  · intro e
    have e := Str.mk.inj e
    have e := congrArg Array.toList e
    simp only at e
    have inj : ∀ {x y : List Char}, x.map Char.toNat = y.map Char.toNat → x = y := by
      intro x
      induction x with
      | nil => intro y e; cases y with
        | nil => rfl
        | cons c y => simp at e
      | cons c x ih =>
        intro y e
        cases y with
        | nil => simp at e
        | cons d y =>
          simp only [List.map_cons, List.cons.injEq] at e
          rw [ih e.2]
          have : c = d := Char.ext (UInt32.toNat_inj.mp e.1)
          rw [this]
    have := inj e
    exact String.toList_inj.mp this
  · intro e
    rw [e]
@[simp] theorem ofs_beq (a b : String) : (Str.ofString a == Str.ofString b) = (a == b) := by
  rw [Bool.eq_iff_iff, beq_iff_eq, beq_iff_eq, ofs_eq]
@[simp] theorem ofs_ok (a : String) : PyData.strOk (Str.ofString a) = true := by
  rw [Str.ofString_eq_toList]
  unfold PyData.strOk
  simp only [List.all_toArray, List.all_map, List.all_eq_true]
  intro c _
  have : c.toNat < 0x110000 := by
    rcases c.valid with h | h
    · have : c.toNat < 0xD800 := h
      omega
    · exact h.2
  simpa using this
@[simp] theorem eqv_str (a b : Str) : PyData.eqv (.str a) (.str b) = (a == b) := by
  simp [PyData.eqv]
theorem sh_str {a : Str} (e : PyData.strOk a = true) : SeqAt.shaped (.str a) = true := by simp [SeqAt.shaped, PyData.canLay0, PyData.depth, e]
theorem eqU_s (neg : Bool) (a b : Str) (h : IH) (ea : PyData.strOk a = true) (eb : PyData.strOk b = true) : eqU neg (.str a) (.str b) h = .ok (.bl (if neg then !(a == b) else a == b)) h := by
  simp [eqU, tD, pD, sh_str, ea, eb]
@[simp] theorem eqU_i (neg : Bool) (a b : Int) (h : IH) : eqU neg (.int a) (.int b) h = .ok (.bl (if neg then !(a == b) else a == b)) h := by
  simp [eqU, tD, pD, SeqAt.shaped, PyData.canLay0, PyData.depth, PyData.eqv]
theorem eqU_d (neg : Bool) {x y : U} {d e : PyData} {h : IH} (hx : tD h x = some d) (hy : tD h y = some e) (sd : SeqAt.shaped d = true) (se : SeqAt.shaped e = true) : eqU neg x y h = .ok (.bl (if neg then !(PyData.eqv d e) else PyData.eqv d e)) h := by
  unfold eqU
  rw [hx, hy]
  dsimp only
  rw [if_pos ⟨sd, se⟩]
/-- words in a row of words -/
theorem pDs_strs : ∀ (ws : List Str), pDs (ws.map U.str) = some (ws.map PyData.str)
  | [] => rfl
  | w :: ws => by
    show (match pD (.str w), pDs (ws.map U.str) with | some d, some ds => some (d :: ds) | _, _ => none) = _
    rw [pDs_strs ws]
    rfl
/-! ### isinstance -/
section
variable (h : IH) (b : Bool) (i : Int) (x : Str) (xs : List U)
@[simp] theorem isi_ii : isiU "int" (.int i) h = .ok (.bl true) h := rfl
@[simp] theorem isi_ib : isiU "bool" (.int i) h = .ok (.bl false) h := rfl
@[simp] theorem isi_il : isiU "list" (.int i) h = .ok (.bl false) h := rfl
@[simp] theorem isi_it : isiU "tuple" (.int i) h = .ok (.bl false) h := rfl
@[simp] theorem isi_is : isiU "str" (.int i) h = .ok (.bl false) h := rfl
@[simp] theorem isi_bi : isiU "int" (.bl b) h = .ok (.bl true) h := rfl
@[simp] theorem isi_bb : isiU "bool" (.bl b) h = .ok (.bl true) h := rfl
@[simp] theorem isi_bl : isiU "list" (.bl b) h = .ok (.bl false) h := rfl
@[simp] theorem isi_bt : isiU "tuple" (.bl b) h = .ok (.bl false) h := rfl
@[simp] theorem isi_bs : isiU "str" (.bl b) h = .ok (.bl false) h := rfl
@[simp] theorem isi_ni : isiU "int" .non h = .ok (.bl false) h := rfl
@[simp] theorem isi_nb : isiU "bool" .non h = .ok (.bl false) h := rfl
@[simp] theorem isi_nl : isiU "list" .non h = .ok (.bl false) h := rfl
@[simp] theorem isi_nt : isiU "tuple" .non h = .ok (.bl false) h := rfl
@[simp] theorem isi_ns : isiU "str" .non h = .ok (.bl false) h := rfl
@[simp] theorem isi_si : isiU "int" (.str x) h = .ok (.bl false) h := rfl
@[simp] theorem isi_sb : isiU "bool" (.str x) h = .ok (.bl false) h := rfl
@[simp] theorem isi_sl : isiU "list" (.str x) h = .ok (.bl false) h := rfl
@[simp] theorem isi_st : isiU "tuple" (.str x) h = .ok (.bl false) h := rfl
@[simp] theorem isi_ss : isiU "str" (.str x) h = .ok (.bl true) h := rfl
@[simp] theorem isi_ti : isiU "int" (.tup xs) h = .ok (.bl false) h := rfl
@[simp] theorem isi_tb : isiU "bool" (.tup xs) h = .ok (.bl false) h := rfl
@[simp] theorem isi_tl : isiU "list" (.tup xs) h = .ok (.bl false) h := rfl
@[simp] theorem isi_tt : isiU "tuple" (.tup xs) h = .ok (.bl true) h := rfl
@[simp] theorem isi_ts : isiU "str" (.tup xs) h = .ok (.bl false) h := rfl
@[simp] theorem isi_li : isiU "int" (.lst xs) h = .ok (.bl false) h := rfl
@[simp] theorem isi_lb : isiU "bool" (.lst xs) h = .ok (.bl false) h := rfl
@[simp] theorem isi_ll : isiU "list" (.lst xs) h = .ok (.bl true) h := rfl
@[simp] theorem isi_lt : isiU "tuple" (.lst xs) h = .ok (.bl false) h := rfl
@[simp] theorem isi_ls : isiU "str" (.lst xs) h = .ok (.bl false) h := rfl
end
/-! ### dicts that are written out -/
def prs3 (p : U × U) (r : R (List (U × U))) : R (List (U × U)) := r.bind fun ps h => .ok (p :: ps) h
def prs2 (x : U) (l : List (EM × EM)) (ρ : Env) (r : R U) : R (List (U × U)) := r.bind fun y h => prs3 (x, y) (prsM l ρ h)
def prs1 (g : EM) (l : List (EM × EM)) (ρ : Env) (r : R U) : R (List (U × U)) := r.bind fun x h => prs2 x l ρ (g ρ h)
@[simp] theorem prs3_ok (p : U × U) (ps : List (U × U)) (h : IH) : prs3 p (.ok ps h) = .ok (p :: ps) h := rfl
@[simp] theorem prs2_ok (x y : U) (l : List (EM × EM)) (ρ : Env) (h : IH) : prs2 x l ρ (.ok y h) = prs3 (x, y) (prsM l ρ h) := rfl
@[simp] theorem prs1_ok (x : U) (g : EM) (l : List (EM × EM)) (ρ : Env) (h : IH) : prs1 g l ρ (.ok x h) = prs2 x l ρ (g ρ h) := rfl
@[simp] theorem prsM_nil (ρ : Env) (h : IH) : prsM [] ρ h = .ok [] h := rfl
@[simp] theorem prsM_cons (f g : EM) (l : List (EM × EM)) (ρ : Env) (h : IH) : prsM ((f, g) :: l) ρ h = prs1 g l ρ (f ρ h) := rfl
def dispV (n : Nat) (ps : List (U × U)) (h2 : IH) : R U := match h2[n]?, keyed ps with
  | some (.dk []), some kvs => if kvs.length ≤ 15 then .ok (.ref n) (h2.set n (.dk (mergeD [] kvs))) else .bad
  | _, _ => .bad
def disp1 (n : Nat) (r : R (List (U × U))) : R U := r.bind fun ps h2 => dispV n ps h2
@[simp] theorem disp1_ok (n : Nat) (ps : List (U × U)) (h2 : IH) : disp1 n (.ok ps h2) = dispV n ps h2 := rfl
@[simp] theorem dispE_e (prs : List (EM × EM)) (ρ : Env) (h : IH) : dispE prs ρ h = disp1 h.length (prsM prs ρ (h ++ [.dk []])) := rfl
theorem dispV_e {h g : IH} {ps : List (U × U)} {kvs : List (Key × U)} (e : keyed ps = some kvs) (l : kvs.length ≤ 15) : dispV h.length ps (h ++ .dk [] :: g) = .ok (.ref h.length) (h ++ .dk (mergeD [] kvs) :: g) := by
  unfold dispV
  rw [e]
  simp [l]
theorem dix_r {tab : Addr → Option (List (Str × U))} {h : IH} {n : Nat} {kvs : List (Key × U)} {x u : U} {k : Key} (e : h[n]? = some (.dk kvs)) (ek : keyOf x = some k) (eu : getD kvs k = some u) : sbU tab (.ref n) x h = .ok u h := by
  simp only [sbU, isDU, e, if_true, dixU, ek, eu]
theorem dix_a {tab : Addr → Option (List (Str × U))} {h : IH} {d : Addr} {t : List (Str × U)} {x : Str} {u : U} (e : tab d = some t) (eu : t.lookup x = some u) : sbU tab (.adr d) (.str x) h = .ok u h := by
  simp only [sbU, isDU, if_true, dixU, e, eu]
/-- what is read of an object -/
def rdV (h : IH) : Option U → R U
  | some u => .ok u h
  | none => .bad
@[simp] theorem rdV_s (h : IH) (u : U) : rdV h (some u) = .ok u h := rfl
def rdK (kvs : List (Key × U)) (y : U) (h : IH) : R U := match keyOf y with
  | some k => rdV h (getD kvs k)
  | none => .bad
@[simp] theorem rdK_s (kvs : List (Key × U)) (s : Str) (h : IH) : rdK kvs (.str s) h = rdV h (getD kvs (.inr s)) := rfl
@[simp] theorem rdK_i (kvs : List (Key × U)) (i : Int) (h : IH) : rdK kvs (.int i) h = rdV h (getD kvs (.inl i)) := rfl
def sbO (y : U) (h : IH) : Option O → R U
  | some (.dk kvs) => rdK kvs y h
  | some (.lst xs) => match y with
    | .int i => nthU xs i h
    | _ => .bad
  | _ => .bad
@[simp] theorem sbO_d (y : U) (h : IH) (kvs : List (Key × U)) : sbO y h (some (.dk kvs)) = rdK kvs y h := rfl
@[simp] theorem sbO_l (i : Int) (h : IH) (xs : List U) : sbO (.int i) h (some (.lst xs)) = nthU xs i h := rfl
@[simp] theorem sb_ref (tab : Addr → Option (List (Str × U))) (n : Nat) (y : U) (h : IH) : sbU tab (.ref n) y h = sbO y h h[n]? := by
  obtain ⟨o, q⟩ : ∃ o, h[n]? = o := ⟨_, rfl⟩
  have e : sbO y h h[n]? = sbO y h o := by rw [q]
  rw [e]
  have no : (∀ kvs, o ≠ some (.dk kvs)) → sbU tab (.ref n) y h = ixU (.ref n) y h := by
    intro z
    have d : isDU h (.ref n) = false := by
      unfold isDU
      dsimp only
      rw [q]
      split
      · rename_i x kvs; exact absurd rfl (z _)
      · rfl
    unfold sbU
    rw [d]; rfl
  cases o with
  | none =>
    rw [no (by simp)]
    cases y <;> simp [ixU, itL, q, sbO]
  | some o =>
    cases o with
    | dk kvs =>
      have d : isDU h (.ref n) = true := by
        unfold isDU
        dsimp only
        rw [q]
      unfold sbU
      rw [if_pos d]
      unfold dixU sbO rdK rdV
      dsimp only
      rw [q]
      cases keyOf y with
      | none => rfl
      | some k => 
        dsimp only
        all_goals (cases getD kvs k <;> rfl)
    | lst xs =>
      rw [no (by simp)]
      cases y with
      | int i =>
        simp only [ixU, itL, q, sbO, nthU]
        all_goals (cases atI xs i <;> rfl)
      | _ => rfl
    | dt kvs =>
      rw [no (by simp)]
      cases y <;> simp [ixU, itL, q, sbO]
    | ins C fs =>
      rw [no (by simp)]
      cases y <;> simp [ixU, itL, q, sbO]
@[simp] theorem sb_adr (tab : Addr → Option (List (Str × U))) (d : Addr) (x : Str) (h : IH) : sbU tab (.adr d) (.str x) h = rdV h ((tab d).bind fun t => t.lookup x) := by
  simp only [sbU, isDU, if_true, dixU]
  cases tab d with
  | none => rfl
  | some t => 
    show (match t.lookup x with | some u => R.ok u h | none => .bad) = rdV h (t.lookup x)
    cases t.lookup x <;> rfl
end PD

set_option Elab.async false
set_option linter.all false
set_option maxRecDepth 100000
set_option maxHeartbeats 4000000
namespace PD
open PySem PySem.Spec PyProof.Rows L2
/-! ### more codes, read off -/
@[simp] theorem sizeL : sizeLine = 16777216 := rfl
section
variable (ρ : Env) (h : IH) (u v : U) (us : List U) (i j l n : Nat)
@[simp] theorem newT_0 : newT [] h = .ok (.tup []) h := rfl
@[simp] theorem newL_0 : newL false [] h = .ok (.lst []) h := rfl
@[simp] theorem newT_1 (e : us.length ≤ 16777215) : newT (u :: us) h = .ok (.tup (u :: us)) h := newT_e h _ (by rw [sizeL, List.length_cons]; omega)
@[simp] theorem newL_1 (e : us.length ≤ 16777215) : newL false (u :: us) h = .ok (.lst (u :: us)) h := newL_f h _ (by rw [sizeL, List.length_cons]; omega)
@[simp] theorem newL_0t : newL true [] h = .ok (.ref h.length) (h ++ [.lst []]) := rfl
@[simp] theorem newL_1t (e : us.length ≤ 16777215) : newL true (u :: us) h = .ok (.ref h.length) (h ++ [.lst (u :: us)]) := newL_t h _ (by rw [sizeL, List.length_cons]; omega)
/-! unpacking -/
@[simp] theorem nilG_e : nilG [] ρ h = .ok ρ h := rfl
def consG1 (k : List U → Env → IH → R Env) (us : List U) (r : R Env) : R Env := r.bind fun ρ h => k us ρ h
@[simp] theorem consG1_ok (k : List U → Env → IH → R Env) : consG1 k us (.ok ρ h) = k us ρ h := rfl
@[simp] theorem consG_e (g : GM) (k : List U → Env → IH → R Env) : consG g k (u :: us) ρ h = consG1 k us (g u ρ h) := rfl
@[simp] theorem seqG_t (k : List U → Env → IH → R Env) (e : us.length = n) : seqG n k (.tup us) ρ h = noX (k us ρ h) := by
  show (if us.length = n then _ else _) = _
  rw [if_pos e]
theorem seqG_e (k : List U → Env → IH → R Env) {xs : List U} (q : itL h u = some xs) (e : xs.length = n) : seqG n k u ρ h = noX (k xs ρ h) := by
  unfold seqG
  cases u with
  | tup ys => cases q
  | _ =>
    dsimp only
    rw [q]
    dsimp only
    rw [if_pos e]
def parV2 (i j : Nat) (ρ : Env) (us : List U) (h : IH) : RS := match us with
  | [u, w] => .fl (.nx ((ρ.set i (some u)).set j (some w))) h
  | _ => .bad
def par2f (i j : Nat) (ρ : Env) (r : R (List U)) : RS := r.st ρ fun us h => parV2 i j ρ us h
@[simp] theorem par2f_ok (w : U) : par2f i j ρ (.ok [u, w] h) = .fl (.nx ((ρ.set i (some u)).set j (some w))) h := rfl
@[simp] theorem par2_e (f : AM) : par2 i j f ρ h = par2f i j ρ (f ρ h) := by
  unfold par2 par2f parV2
  rfl
def parV3 (i j l : Nat) (ρ : Env) (us : List U) (h : IH) : RS := match us with
  | [u, w, z] => .fl (.nx (((ρ.set i (some u)).set j (some w)).set l (some z))) h
  | _ => .bad
def par3f (i j l : Nat) (ρ : Env) (r : R (List U)) : RS := r.st ρ fun us h => parV3 i j l ρ us h
@[simp] theorem par3f_ok (w z : U) : par3f i j l ρ (.ok [u, w, z] h) = .fl (.nx (((ρ.set i (some u)).set j (some w)).set l (some z))) h := rfl
@[simp] theorem par3_e (f : AM) : par3 i j l f ρ h = par3f i j l ρ (f ρ h) := by
  unfold par3 par3f parV3
  rfl
def subG3 (ρ : Env) (r : R Unit) : R Env := r.bind fun _ h => .ok ρ h
@[simp] theorem subG3_ok (w : Unit) : subG3 ρ (.ok w h) = .ok ρ h := rfl
def subG2 (o : U → U → U → IH → R Unit) (ρ : Env) (x u : U) (r : R U) : R Env := r.bind fun y h => subG3 ρ (o x y u h)
@[simp] theorem subG2_ok (o : U → U → U → IH → R Unit) (x y : U) : subG2 o ρ x u (.ok y h) = subG3 ρ (o x y u h) := rfl
def subG1 (g : EM) (o : U → U → U → IH → R Unit) (ρ : Env) (u : U) (r : R U) : R Env := r.bind fun x h => subG2 o ρ x u (g ρ h)
@[simp] theorem subG1_ok (g : EM) (o : U → U → U → IH → R Unit) (x : U) : subG1 g o ρ u (.ok x h) = subG2 o ρ x u (g ρ h) := rfl
@[simp] theorem subG_e (f g : EM) (o : U → U → U → IH → R Unit) : subG f g o u ρ h = subG1 g o ρ u (f ρ h) := rfl
/-! putting -/
def putO (n : Nat) (i u : U) (h : IH) : Option O → R Unit
  | some (.dk kvs) => match keyOf i with
    | some k => if kvs.length < sizeLine then .ok () (h.set n (.dk (putD kvs k u))) else .bad
    | none => .bad
  | some (.lst xs) => match i with
    | .int k => match ixN xs.length k with
      | some j => .ok () (h.set n (.lst (xs.set j u)))
      | none => .bad
    | _ => .bad
  | _ => .bad
@[simp] theorem putX_r (x : U) : putX (.ref n) x u h = putO n x u h h[n]? := by
  unfold putX putO putU
  dsimp only
  obtain ⟨o, q⟩ : ∃ o, h[n]? = o := ⟨_, rfl⟩
  rw [q]
  cases o with
  | none =>
    cases x <;> simp [q]
  | some o =>
    cases o with
    | dk kvs =>
      dsimp only
      all_goals (cases keyOf x <;> rfl)
    | lst xs =>
      cases x with
      | int k =>
        dsimp only
        rw [q]
        all_goals dsimp only
        all_goals (cases ixN xs.length k <;> rfl)
      | _ => rfl
    | _ => cases x <;> simp [q]
theorem putO_l (xs : List U) (k : Nat) (e : k < xs.length) : putO n (.int (k : Int)) u h (some (.lst xs)) = .ok () (h.set n (.lst (xs.set k u))) := by
  unfold putO ixN
  simp [e]
theorem putO_d (kvs : List (Key × U)) (s : Str) (e : kvs.length < 16777216) : putO n (.str s) u h (some (.dk kvs)) = .ok () (h.set n (.dk (putD kvs (.inr s) u))) := by
  unfold putO
  simp [keyOf, e]
/-! zip -/
def zipV (us : List U) (h : IH) : R Src := match us with
  | [u, v] => match soU h u, soU h v with
    | some (xs, c1), some (ys, c2) => .ok { items := zipP xs ys, chk := c1 ++ c2 } h
    | _, _ => .bad
  | _ => .bad
def zip1 (r : R (List U)) : R Src := r.bind fun us h => zipV us h
@[simp] theorem zip1_ok : zip1 (.ok us h) = zipV us h := rfl
@[simp] theorem zipU_e (f : AM) : zipU f ρ h = zip1 (f ρ h) := by
  unfold zipU zip1 zipV
  rfl
@[simp] theorem soU_t (xs : List U) : soU h (.tup xs) = some (xs, []) := rfl
@[simp] theorem soU_l (xs : List U) : soU h (.lst xs) = some (xs, []) := rfl
@[simp] theorem soU_c (xs : List U) : soU h (.scr xs) = some (xs, []) := rfl
theorem zipV_e {xs ys : List U} (e1 : soU h u = some (xs, [])) (e2 : soU h v = some (ys, [])) : zipV [u, v] h = .ok { items := zipP xs ys } h := by
  unfold zipV
  dsimp only
  rw [e1, e2]
  rfl
@[simp] theorem allU_l (xs : List U) : allU (.lst xs) h = match bools xs with
  | some bs => .ok (.bl (bs.all fun b => b)) h
  | none => .bad := rfl
@[simp] theorem anyU_l (xs : List U) : anyU (.lst xs) h = match bools xs with
  | some bs => .ok (.bl (bs.any fun b => b)) h
  | none => .bad := rfl
@[simp] theorem bools_map {α : Type} (f : α → Bool) : ∀ xs : List α, bools (xs.map fun x => U.bl (f x)) = some (xs.map f)
  | [] => rfl
  | x :: xs => by
    show (bools (xs.map fun x => U.bl (f x))).map (f x :: ·) = _
    rw [bools_map f xs]; rfl
@[simp] theorem slU_t (lo hi : Option Int) (xs : List U) : slU false (.tup xs) lo hi h = .ok (.tup (cut xs lo hi)) h := rfl
@[simp] theorem backU_t (xs : List U) : backU false (.tup xs) h = .ok (.tup xs.reverse) h := rfl
end
theorem cut_1 (x : U) (xs : List U) : cut (x :: xs) (some 1) none = xs := by
  simp [cut, HT.sIx]
theorem cut_from (xs : List U) (n : Nat) (l : n ≤ xs.length) : cut xs (some (n : Int)) none = xs.drop n := by
  unfold cut HT.sIx
  dsimp only
  rw [if_neg (by omega), Int.toNat_natCast, Nat.min_eq_left l, List.take_of_length_le (by simp)]
/-- letters of a text that is written -/
theorem ofs_items (s : String) : ((Str.ofString s).cps.toList.map fun c => U.str ⟨#[c]⟩) = s.toList.map fun c => U.str (Str.ofString (String.singleton c)) := by
  rw [Str.ofString_eq_toList]
  simp only [List.map_map]
  apply List.map_congr_left
  intro c _
  simp [Str.ofString_eq_toList]
section
variable (ys : List U) (g : GM) (t : BM) (e : EM) (b : SM) (ρ : Env) (h : IH) (acc xs : List U) (x : U)
@[simp] theorem compGo_n : compGo { items := ys } g t e ρ [] h acc = .ok acc h := compGo_nil At_nil
@[simp] theorem compGo_c : compGo { items := ys } g t e ρ (x :: xs) h acc = cmp1 { items := ys } g t e ρ xs acc (g x ρ h) := compGo_cons At_nil
@[simp] theorem forGo_n : forGo { items := ys } g b [] ρ h = .fl (.nx ρ) h := forGo_nil At_nil
@[simp] theorem forGo_c : forGo { items := ys } g b (x :: xs) ρ h = turn { items := ys } g b xs (gthen b ρ (g x ρ h)) := forGo_cons At_nil
end
/-- the pieces of data, looked at -/
def eqV (neg : Bool) (h : IH) : Option PyData → Option PyData → R U
  | some d, some e => if SeqAt.shaped d = true ∧ SeqAt.shaped e = true then .ok (.bl (if neg then !PyData.eqv d e else PyData.eqv d e)) h else .bad
  | _, _ => .bad
theorem eqU_e (neg : Bool) (x y : U) (h : IH) : eqU neg x y h = eqV neg h (tD h x) (tD h y) := by
  unfold eqU eqV
  rfl
theorem eqV_e (neg : Bool) {h : IH} {d e : PyData} (sd : SeqAt.shaped d = true) (se : SeqAt.shaped e = true) : eqV neg h (some d) (some e) = .ok (.bl (if neg then !PyData.eqv d e else PyData.eqv d e)) h := if_pos ⟨sd, se⟩
end PD

set_option Elab.async false
set_option linter.all false
namespace PD
/-! the deeds, the plain store, what is led to, the picture: plain Lean, no program in sight -/
/-- the deeds -/
inductive D where
  | new (r a b : Nat) | copy (r s : Nat) | clear (r : Nat) | link (r i s : Nat) | follow (r s i : Nat) | write (r i : Nat) (v : Int) | read (r i : Nat)
  | same (r s : Nat) | shape (r : Nat) | weak (w r : Nat) | look (r w : Nat) | wish (r : Nat) | next (r : Nat) | gather
deriving DecidableEq
/-- drawn among n roots -/
def D.ok (n : Nat) : D → Prop
  | .new r a b => r < n ∧ a < 4 ∧ b < 3
  | .copy r s => r < n ∧ s < n
  | .clear r => r < n
  | .link r i s => r < n ∧ i < 4 ∧ s < n
  | .follow r s i => r < n ∧ s < n ∧ i < 4
  | .write r i v => r < n ∧ i < 4 ∧ -1000 ≤ v ∧ v ≤ 1000
  | .read r i => r < n ∧ i < 4
  | .same r s => r < n ∧ s < n
  | .shape r => r < n
  | .weak w r => w < 4 ∧ r < n
  | .look r w => r < n ∧ w < 4
  | .wish r => r < n
  | .next r => r < n
  | .gather => True
theorem D.ok.mono {n m : Nat} (l : n ≤ m) {d : D} (h : d.ok n) : d.ok m := by
  cases d <;> simp only [D.ok] at h ⊢ <;> omega
def D.names : D → List (Bool × Nat)
  | .new r _ _ => [(true, r)]
  | .copy r s => [(true, r), (true, s)]
  | .clear r => [(true, r)]
  | .link r _ s => [(true, r), (true, s)]
  | .follow r s _ => [(true, r), (true, s)]
  | .write r _ _ => [(true, r)]
  | .read r _ => [(true, r)]
  | .same r s => [(true, r), (true, s)]
  | .shape r => [(true, r)]
  | .weak w r => [(true, r), (false, w)]
  | .look r w => [(true, r), (false, w)]
  | .wish r => [(true, r)]
  | .next r => [(true, r)]
  | .gather => []
def D.chg : D → List (Bool × Nat)
  | .new r _ _ => [(true, r)]
  | .copy r _ => [(true, r)]
  | .clear r => [(true, r)]
  | .follow r _ _ => [(true, r)]
  | .weak w _ => [(false, w)]
  | .look r _ => [(true, r)]
  | .next r => [(true, r)]
  | _ => []
/-- the law's plain store: links, numbers and marks of the objects in lists of their own -/
structure S where
  root : List (Option Nat)
  weak : List (Option Nat)
  wish : List Nat
  queue : List Nat
  lks : List (List (Option Nat))
  nms : List (List Int)
  mks : List Bool
/-- an answer -/
inductive An where
  | no | non | int (i : Int) | bl (b : Bool) | two (a b : Nat)
deriving DecidableEq
/-- what some items lead to is added, as one meets it -/
def add (f : List Nat) : List (Option Nat) → List Nat
  | [] => f
  | none :: xs => add f xs
  | some x :: xs => if x ∈ f then add f xs else add (f ++ [x]) xs
def ledGo (lks : List (List (Option Nat))) : Nat → List Nat → Nat → List Nat
  | 0, f, _ => f
  | n + 1, f, i => match f[i]? with
    | some x => ledGo lks n (add f (lks.getD x [])) (i + 1)
    | none => ledGo lks n f i
def S.led (s : S) (xs : List (Option Nat)) : List Nat := ledGo s.lks (s.lks.length + 1) (add [] xs) 0
def S.rt (s : S) (r : Nat) : Option Nat := (s.root[r]?).join
def S.wk (s : S) (r : Nat) : Option Nat := (s.weak[r]?).join
def S.lk (s : S) (x : Nat) : List (Option Nat) := (s.lks[x]?).getD []
def S.nm (s : S) (x : Nat) : List Int := (s.nms[x]?).getD []
def S.mk_ (s : S) (x : Nat) : Bool := (s.mks[x]?).getD false
/-- what a gather reaches -/
def S.gre (s : S) : List Nat := s.led (s.root ++ s.queue.map some)
def S.do (s : S) : D → S × An
  | .new r a b => ({ s with lks := s.lks ++ [List.replicate a none], nms := s.nms ++ [List.replicate b 0], mks := s.mks ++ [false], root := s.root.set r (some s.lks.length) }, .non)
  | .copy r t => ({ s with root := s.root.set r (s.rt t) }, .non)
  | .clear r => ({ s with root := s.root.set r none }, .non)
  | .link r i t => match s.rt r with
    | none => (s, .no)
    | some x => if i < (s.lk x).length then ({ s with lks := s.lks.set x ((s.lk x).set i (s.rt t)) }, .non) else (s, .no)
  | .follow r t i => match s.rt t with
    | none => (s, .no)
    | some x => match (s.lk x)[i]? with
      | some y => ({ s with root := s.root.set r y }, .non)
      | none => (s, .no)
  | .write r i v => match s.rt r with
    | none => (s, .no)
    | some x => if i < (s.nm x).length then ({ s with nms := s.nms.set x ((s.nm x).set i v) }, .non) else (s, .no)
  | .read r i => match s.rt r with
    | none => (s, .no)
    | some x => match (s.nm x)[i]? with
      | some v => (s, .int v)
      | none => (s, .no)
  | .same r t => (s, .bl (s.rt r == s.rt t))
  | .shape r => match s.rt r with
    | none => (s, .non)
    | some x => (s, .two (s.lk x).length (s.nm x).length)
  | .weak w r => ({ s with weak := s.weak.set w (s.rt r) }, .non)
  | .look r w => ({ s with root := s.root.set r (s.wk w) }, .non)
  | .wish r => match s.rt r with
    | none => (s, .no)
    | some x => if s.mk_ x = true then (s, .non) else ({ s with mks := s.mks.set x true, wish := s.wish ++ [x] }, .non)
  | .next r => ({ s with root := s.root.set r s.queue.head?, queue := s.queue.drop 1 }, .non)
  | .gather => ({ s with weak := s.weak.map fun x => x.filter fun y => s.gre.contains y, wish := s.wish.filter fun x => s.gre.contains x, queue := s.queue ++ s.wish.filter fun x => !s.gre.contains x }, .int (s.wish.filter fun x => !s.gre.contains x).length)
def S.st (s : S) (d : D) : S := (s.do d).1
def S.an (s : S) (d : D) : An := (s.do d).2
def S.all (s : S) : List (Option Nat) := s.root ++ s.weak ++ s.wish.map some ++ s.queue.map some
def S.order (s : S) : List Nat := s.led s.all
structure Pic where
  root : List (Option Nat)
  weak : List (Option Nat)
  wish : List Nat
  queue : List Nat
  objs : List (List (Option Nat) × List Int × Bool)
deriving DecidableEq
def S.pic (s : S) : Pic where
  root := s.root.map (Option.map s.order.idxOf)
  weak := s.weak.map (Option.map s.order.idxOf)
  wish := s.wish.map s.order.idxOf
  queue := s.queue.map s.order.idxOf
  objs := s.order.map fun x => ((s.lk x).map (Option.map s.order.idxOf), s.nm x, s.mk_ x)
def S.empty (n : Nat) : S := ⟨List.replicate n none, List.replicate 4 none, [], [], [], [], []⟩
def S.run (s : S) : List D → S × List An
  | [] => (s, [])
  | d :: ds => ((s.st d).run ds |>.1, s.an d :: ((s.st d).run ds).2)
/-! ### all places that are named are there -/
structure S.WF (s : S) : Prop where
  root : ∀ x, some x ∈ s.root → x < s.lks.length
  weak : ∀ x, some x ∈ s.weak → x < s.lks.length
  wish : ∀ x, x ∈ s.wish → x < s.lks.length
  queue : ∀ x, x ∈ s.queue → x < s.lks.length
  lks : ∀ l, l ∈ s.lks → ∀ x, some x ∈ l → x < s.lks.length
  nms : s.nms.length = s.lks.length
  mks : s.mks.length = s.lks.length
theorem S.WF.rt {s : S} (w : s.WF) {r x : Nat} (h : s.rt r = some x) : x < s.lks.length := by
  unfold S.rt at h
  cases e : s.root[r]? with
  | none => rw [e] at h; cases h
  | some o =>
    rw [e] at h
    have h : o = some x := h
    subst h
    exact w.root x (List.mem_of_getElem? e)
theorem S.WF.wk {s : S} (w : s.WF) {r x : Nat} (h : s.wk r = some x) : x < s.lks.length := by
  unfold S.wk at h
  cases e : s.weak[r]? with
  | none => rw [e] at h; cases h
  | some o =>
    rw [e] at h
    have h : o = some x := h
    subst h
    exact w.weak x (List.mem_of_getElem? e)
theorem S.WF.lk {s : S} (w : s.WF) {x y : Nat} (h : some y ∈ s.lk x) : y < s.lks.length := by
  unfold S.lk at h
  cases e : s.lks[x]? with
  | none => rw [e] at h; cases h
  | some l =>
    rw [e] at h
    exact w.lks l (List.mem_of_getElem? e) y h
theorem mem_set' {α : Type} {l : List α} {i : Nat} {a b : α} (h : a ∈ l.set i b) : a ∈ l ∨ a = b := by
  rcases List.mem_or_eq_of_mem_set h with h | h
  · exact .inl h
  · exact .inr h
theorem S.WF.st {s : S} (w : s.WF) (d : D) : (s.st d).WF := by
  have rs : ∀ (r : Nat) (o : Option Nat), (∀ x, o = some x → x < s.lks.length) → ∀ x, some x ∈ s.root.set r o → x < s.lks.length := by
    intro r o ho x hx
    rcases mem_set' hx with hx | hx
    · exact w.root x hx
    · exact ho x hx.symm
  have sm : s.WF := w
  cases d with
  | new r a b =>
    refine ⟨?_, ?_, ?_, ?_, ?_, ?_, ?_⟩
    · intro x hx
      rcases mem_set' hx with hx | hx
      · have := w.root x hx; simp [S.st, S.do]; omega
      · cases hx; simp [S.st, S.do]
    · intro x hx; have := w.weak x hx; simp [S.st, S.do]; omega
    · intro x hx; have := w.wish x hx; simp [S.st, S.do]; omega
    · intro x hx; have := w.queue x hx; simp [S.st, S.do]; omega
    · intro l hl x hx
      have hl : l ∈ s.lks ++ [List.replicate a none] := hl
      rcases List.mem_append.mp hl with hl | hl
      · have := w.lks l hl x hx; simp [S.st, S.do]; omega
      · simp at hl; subst hl; simp at hx
    · simp [S.st, S.do, w.nms]
    · simp [S.st, S.do, w.mks]
  | copy r t => exact ⟨rs r _ fun x => w.rt, w.weak, w.wish, w.queue, w.lks, w.nms, w.mks⟩
  | clear r => exact ⟨rs r _ (fun x h => nomatch h), w.weak, w.wish, w.queue, w.lks, w.nms, w.mks⟩
  | link r i t =>
    unfold S.st S.do
    dsimp only
    split
    · exact w
    · rename_i x hx
      split
      · refine ⟨?_, ?_, ?_, ?_, ?_, ?_, ?_⟩ <;> simp only [List.length_set]
        · exact w.root
        · exact w.weak
        · exact w.wish
        · exact w.queue
        · intro l hl y hy
          rcases mem_set' hl with hl | hl
          · exact w.lks l hl y hy
          · subst hl
            rcases mem_set' hy with hy | hy
            · exact w.lk hy
            · exact w.rt hy.symm
        · exact w.nms
        · exact w.mks
      · exact w
  | follow r t i =>
    unfold S.st S.do
    dsimp only
    split
    · exact w
    · split
      · rename_i x hx _ y hy
        refine ⟨rs r _ fun z hz => ?_, w.weak, w.wish, w.queue, w.lks, w.nms, w.mks⟩
        subst hz
        exact w.lk (List.mem_of_getElem? hy)
      · exact w
  | write r i v =>
    unfold S.st S.do
    dsimp only
    split
    · exact w
    · split
      · exact ⟨w.root, w.weak, w.wish, w.queue, w.lks, by simpa using w.nms, w.mks⟩
      · exact w
  | read r i => unfold S.st S.do; dsimp only; split <;> (try split) <;> exact w
  | same r t => exact w
  | shape r => unfold S.st S.do; dsimp only; split <;> exact w
  | weak v r =>
    refine ⟨w.root, fun x hx => ?_, w.wish, w.queue, w.lks, w.nms, w.mks⟩
    rcases mem_set' hx with hx | hx
    · exact w.weak x hx
    · exact w.rt hx.symm
  | look r v => exact ⟨rs r _ fun x => w.wk, w.weak, w.wish, w.queue, w.lks, w.nms, w.mks⟩
  | wish r =>
    unfold S.st S.do
    dsimp only
    split
    · exact w
    · rename_i x hx
      split
      · exact w
      · refine ⟨w.root, w.weak, fun y hy => ?_, w.queue, w.lks, w.nms, by simpa using w.mks⟩
        have hy : y ∈ s.wish ++ [x] := hy
        rcases List.mem_append.mp hy with hy | hy
        · exact w.wish y hy
        · simp at hy; subst hy; exact w.rt hx
  | next r =>
    refine ⟨rs r _ fun x h => w.queue x (List.mem_of_head? h), w.weak, w.wish, fun x hx => w.queue x (List.mem_of_mem_drop hx), w.lks, w.nms, w.mks⟩
  | gather =>
    refine ⟨w.root, fun x hx => ?_, fun x hx => w.wish x ((List.mem_filter.mp hx).1), fun x hx => ?_, w.lks, w.nms, w.mks⟩
    · have hx : some x ∈ s.weak.map fun x => x.filter fun y => s.gre.contains y := hx
      obtain ⟨o, ho, e⟩ := List.mem_map.mp hx
      have : o = some x := by
        cases o with
        | none => cases e
        | some y =>
          rw [Option.filter_some] at e
          split at e
          · exact e
          · cases e
      subst this
      exact w.weak x ho
    · have hx : x ∈ s.queue ++ s.wish.filter fun x => !s.gre.contains x := hx
      rcases List.mem_append.mp hx with hx | hx
      · exact w.queue x hx
      · exact w.wish x ((List.mem_filter.mp hx).1)
theorem S.WF.empty (n : Nat) : (S.empty n).WF := by
  refine ⟨?_, ?_, ?_, ?_, ?_, rfl, rfl⟩
  · intro x h; exact absurd (List.eq_of_mem_replicate h) (by simp)
  · intro x h; exact absurd (List.eq_of_mem_replicate h) (by simp)
  · intro x h; cases h
  · intro x h; cases h
  · intro l h; cases h
theorem S.WF.run {s : S} (w : s.WF) (ds : List D) : (s.run ds).1.WF := by
  induction ds generalizing s with
  | nil => exact w
  | cons d ds ih => exact ih (w.st d)
end PD

set_option Elab.async false
set_option linter.all false
namespace PD
def D.isG : D → Bool
  | .gather => true
  | _ => false
def D.ls : D → Bool
  | .wish _ => true
  | .next _ => true
  | _ => false
def D.hp : D → D → Bool
  | .link _ _ _, .link _ _ _ => true
  | .link _ _ _, .follow _ _ _ => true
  | .write _ _ _, .write _ _ _ => true
  | .write _ _ _, .read _ _ => true
  | _, _ => false
/-- whether two deeds clash -/
def D.clash (d e : D) : Bool := (d.isG || e.isG) || (d.ls && e.ls) || (d.hp e || e.hp d) || (d.chg.any (e.names.contains ·) || e.chg.any (d.names.contains ·))
theorem D.clash_comm (d e : D) : d.clash e = e.clash d := by
  unfold D.clash
  rw [Bool.or_comm d.isG, Bool.and_comm d.ls, Bool.or_comm (d.hp e), Bool.or_comm (d.chg.any _)]
section
variable {s : S} {d : D}
theorem rt_st (g : d.isG = false) {r : Nat} (h : (true, r) ∉ d.chg) : (s.st d).rt r = s.rt r := by
  cases d <;> simp [D.chg, D.isG] at h g <;> simp [S.st, S.do, S.rt]
  all_goals (try (split <;> try split)) <;> (try rfl) <;> (try (rw [List.getElem?_set_ne (by omega)]))
theorem wk_st (g : d.isG = false) {r : Nat} (h : (false, r) ∉ d.chg) : (s.st d).wk r = s.wk r := by
  cases d <;> simp [D.chg, D.isG] at h g <;> simp [S.st, S.do, S.wk]
  all_goals (try (split <;> try split)) <;> (try rfl) <;> (try (rw [List.getElem?_set_ne (by omega)]))
theorem len_st (g : d.isG = false) : s.lks.length ≤ (s.st d).lks.length := by
  cases d <;> simp [S.st, S.do]
  all_goals (try (split <;> try split)) <;> simp
theorem lk_st (g : d.isG = false) {x : Nat} (hx : x < s.lks.length) (h : ∀ r i t, d ≠ .link r i t) : (s.st d).lk x = s.lk x := by
  cases d <;> simp [S.st, S.do, S.lk]
  case new => rw [List.getElem?_append_left hx]
  case link => exact absurd rfl (h _ _ _)
  all_goals (try (split <;> try split)) <;> rfl
theorem lkl_st (g : d.isG = false) {x : Nat} (hx : x < s.lks.length) : ((s.st d).lk x).length = (s.lk x).length := by
  cases d
  case link r i t =>
    simp only [S.st, S.do]
    split
    · rfl
    · rename_i y hy
      split
      · unfold S.lk
        dsimp only
        rw [List.getElem?_set]
        split
        · rename_i e
          subst e
          simp [hx, S.lk]
        · rfl
      · rfl
  all_goals exact congrArg _ (lk_st g hx (by intros; simp))
theorem nm_st (g : d.isG = false) {x : Nat} (hx : x < s.nms.length) (h : ∀ r i t, d ≠ .write r i t) : (s.st d).nm x = s.nm x := by
  cases d <;> simp [S.st, S.do, S.nm]
  case new => rw [List.getElem?_append_left hx]
  case write => exact absurd rfl (h _ _ _)
  all_goals (try (split <;> try split)) <;> rfl
theorem nml_st (g : d.isG = false) {x : Nat} (hx : x < s.nms.length) : ((s.st d).nm x).length = (s.nm x).length := by
  cases d
  case write r i t =>
    simp only [S.st, S.do]
    split
    · rfl
    · rename_i y hy
      split
      · unfold S.nm
        dsimp only
        rw [List.getElem?_set]
        split
        · rename_i e
          subst e
          simp [hx, S.nm]
        · rfl
      · rfl
  all_goals exact congrArg _ (nm_st g hx (by intros; simp))
theorem mk_st (g : d.isG = false) {x : Nat} (hx : x < s.mks.length) (h : ∀ r, d ≠ .wish r) : (s.st d).mk_ x = s.mk_ x := by
  cases d <;> simp [S.st, S.do, S.mk_]
  case new => rw [List.getElem?_append_left hx]
  case wish => exact absurd rfl (h _)
  all_goals (try (split <;> try split)) <;> rfl
end
theorem cl {d e : D} (h : d.clash e = false) : d.isG = false ∧ e.isG = false ∧ (d.ls = true → e.ls = false) ∧ d.hp e = false ∧ e.hp d = false ∧ (∀ p ∈ d.chg, p ∉ e.names) ∧ ∀ p ∈ e.chg, p ∉ d.names := by
  unfold D.clash at h
  simp only [Bool.or_eq_false_iff, Bool.and_eq_false_iff, List.any_eq_false, List.contains_iff_mem] at h
  obtain ⟨⟨⟨⟨a, b⟩, c⟩, f, g⟩, i, j⟩ := h
  refine ⟨a, b, fun z => ?_, f, g, i, j⟩
  rcases c with c | c
  · rw [c] at z; cases z
  · exact c
/-- what does not clash leaves the answer -/
theorem an_st {s : S} (w : s.WF) {d e : D} (h : d.clash e = false) : (s.st d).an e = s.an e := by
  obtain ⟨g, g2, _, p1, p2, c1, c2⟩ := cl h
  have R : ∀ r, (true, r) ∈ e.names → (s.st d).rt r = s.rt r := fun r hr => rt_st g fun z => c1 _ z hr
  cases e with
  | link r i t =>
    unfold S.an S.do
    dsimp only
    rw [R r (by simp [D.names])]
    cases q : s.rt r with
    | none => rfl
    | some x =>
      dsimp only
      rw [lkl_st g (w.rt q)]
      split <;> rfl
  | follow r t i =>
    unfold S.an S.do
    dsimp only
    rw [R t (by simp [D.names])]
    cases q : s.rt t with
    | none => rfl
    | some x =>
      dsimp only
      rw [lk_st g (w.rt q) (by rintro r i t rfl; simp [D.hp] at p1)]
      split <;> rfl
  | write r i v =>
    unfold S.an S.do
    dsimp only
    rw [R r (by simp [D.names])]
    cases q : s.rt r with
    | none => rfl
    | some x =>
      dsimp only
      rw [nml_st g (by rw [w.nms]; exact w.rt q)]
      split <;> rfl
  | read r i =>
    unfold S.an S.do
    dsimp only
    rw [R r (by simp [D.names])]
    cases q : s.rt r with
    | none => rfl
    | some x =>
      dsimp only
      rw [nm_st g (by rw [w.nms]; exact w.rt q) (by rintro r i t rfl; simp [D.hp] at p1)]
      split <;> rfl
  | same r t =>
    unfold S.an S.do
    dsimp only
    rw [R r (by simp [D.names]), R t (by simp [D.names])]
  | shape r =>
    unfold S.an S.do
    dsimp only
    rw [R r (by simp [D.names])]
    cases q : s.rt r with
    | none => rfl
    | some x =>
      dsimp only
      rw [nml_st g (by rw [w.nms]; exact w.rt q), lkl_st g (w.rt q)]
  | wish r =>
    unfold S.an S.do
    dsimp only
    rw [R r (by simp [D.names])]
    cases q : s.rt r with
    | none => rfl
    | some x =>
      dsimp only
      split <;> split <;> rfl
  | gather => simp [D.isG] at g2
  | _ => rfl
end PD

set_option Elab.async false
set_option linter.all false
namespace PD
/-! the changes that a deed makes, one by one -/
def D.isN : D → Bool
  | .new _ _ _ => true
  | _ => false
def D.isX : D → Bool
  | .next _ => true
  | _ => false
def S.rv (s : S) : D → Option (Nat × Option Nat)
  | .new r _ _ => some (r, some s.lks.length)
  | .copy r t => some (r, s.rt t)
  | .clear r => some (r, none)
  | .follow r t i => match s.rt t with
    | none => none
    | some x => match (s.lk x)[i]? with
      | some y => some (r, y)
      | none => none
  | .look r w => some (r, s.wk w)
  | .next r => some (r, s.queue.head?)
  | _ => none
def S.wv (s : S) : D → Option (Nat × Option Nat)
  | .weak w r => some (w, s.rt r)
  | _ => none
def S.mv (s : S) : D → Option Nat
  | .wish r => match s.rt r with
    | none => none
    | some x => if s.mk_ x = true then none else some x
  | _ => none
def S.lv (s : S) : D → Option (Nat × Nat × Option Nat)
  | .link r i t => match s.rt r with
    | none => none
    | some x => if i < (s.lk x).length then some (x, i, s.rt t) else none
  | _ => none
def S.nv (s : S) : D → Option (Nat × Nat × Int)
  | .write r i v => match s.rt r with
    | none => none
    | some x => if i < (s.nm x).length then some (x, i, v) else none
  | _ => none
def put1 {α : Type} (l : List α) : Option (Nat × α) → List α
  | none => l
  | some (i, a) => l.set i a
def put2 {α : Type} (l : List (List α)) : Option (Nat × Nat × α) → List (List α)
  | none => l
  | some (x, i, a) => l.set x (((l[x]?).getD []).set i a)
def D.nl : D → List (List (Option Nat))
  | .new _ a _ => [List.replicate a none]
  | _ => []
def D.nn : D → List (List Int)
  | .new _ _ b => [List.replicate b 0]
  | _ => []
def D.nb : D → List Bool
  | .new _ _ _ => [false]
  | _ => []
theorem st_eq {s : S} {d : D} (g : d.isG = false) : s.st d =
    { root := put1 s.root (s.rv d), weak := put1 s.weak (s.wv d), wish := s.wish ++ (s.mv d).toList, queue := if d.isX = true then s.queue.drop 1 else s.queue,
      lks := put2 s.lks (s.lv d) ++ d.nl, nms := put2 s.nms (s.nv d) ++ d.nn, mks := put1 s.mks ((s.mv d).map (·, true)) ++ d.nb } := by
  cases d
  case link r i t =>
    simp only [S.st, S.do, S.rv, S.wv, S.mv, S.lv, S.nv, put1, D.nl, D.nn, D.nb, D.isX, Option.toList, List.append_nil]
    rcases s.rt r with _ | x
    · simp [put2]
    · dsimp only
      by_cases q : i < (s.lk x).length
      · rw [if_pos q, if_pos q]; simp [put2]; rfl
      · rw [if_neg q, if_neg q]; simp [put2]
  case write r i t =>
    simp only [S.st, S.do, S.rv, S.wv, S.mv, S.lv, S.nv, put1, D.nl, D.nn, D.nb, D.isX, Option.toList, List.append_nil]
    rcases s.rt r with _ | x
    · simp [put2]
    · dsimp only
      by_cases q : i < (s.nm x).length
      · rw [if_pos q, if_pos q]; simp [put2]; rfl
      · rw [if_neg q, if_neg q]; simp [put2]
  all_goals simp [S.st, S.do, S.rv, S.wv, S.mv, S.lv, S.nv, put1, put2, D.nl, D.nn, D.nb, D.isX, D.isG] at g ⊢
  all_goals (try (split <;> try split)) <;> simp_all [put1, put2]
section
variable {s : S} {d e : D}
theorem rv_st (w : s.WF) (h : d.clash e = false) (n : d.isN = false ∨ e.isN = false) : (s.st d).rv e = s.rv e := by
  obtain ⟨g, g2, l, p1, p2, c1, c2⟩ := cl h
  have R : ∀ r, (true, r) ∈ e.names → (s.st d).rt r = s.rt r := fun r hr => rt_st g fun z => c1 _ z hr
  cases e with
  | new r a b =>
    have n : d.isN = false := by simpa [D.isN] using n
    have : (s.st d).lks.length = s.lks.length := by
      rw [st_eq g]
      cases d <;> simp [D.isN] at n <;> simp [D.nl, put2]
      all_goals (split <;> simp)
    simp [S.rv, this]
  | copy r t => simp only [S.rv, R t (by simp [D.names])]
  | look r v => simp only [S.rv, wk_st (r := v) g fun z => c1 _ z (by simp [D.names])]
  | follow r t i =>
    simp only [S.rv, R t (by simp [D.names])]
    cases q : s.rt t with
    | none => rfl
    | some x =>
      dsimp only
      rw [lk_st g (w.rt q) (by rintro r i t rfl; simp [D.hp] at p1)]
  | next r =>
    have : (s.st d).queue = s.queue := by
      rw [st_eq g]
      cases d <;> simp [D.ls, D.isX] at l ⊢
    simp only [S.rv, this]
  | _ => rfl
theorem wv_st (w : s.WF) (h : d.clash e = false) : (s.st d).wv e = s.wv e := by
  obtain ⟨g, g2, l, p1, p2, c1, c2⟩ := cl h
  cases e with
  | weak v r => simp only [S.wv, rt_st (r := r) g fun z => c1 _ z (by simp [D.names])]
  | _ => rfl
theorem mv_st (w : s.WF) (h : d.clash e = false) : (s.st d).mv e = s.mv e := by
  obtain ⟨g, g2, l, p1, p2, c1, c2⟩ := cl h
  cases e with
  | wish r =>
    simp only [S.mv, rt_st g fun z => c1 _ z (show (true, r) ∈ (D.wish r).names by simp [D.names])]
    cases q : s.rt r with
    | none => rfl
    | some x =>
      dsimp only
      rw [mk_st g (by rw [w.mks]; exact w.rt q) (by rintro r rfl; simp [D.ls] at l)]
  | _ => rfl
theorem lv_st (w : s.WF) (h : d.clash e = false) : (s.st d).lv e = s.lv e := by
  obtain ⟨g, g2, l, p1, p2, c1, c2⟩ := cl h
  cases e with
  | link r i t =>
    simp only [S.lv, rt_st g fun z => c1 _ z (show (true, r) ∈ (D.link r i t).names by simp [D.names]), rt_st g fun z => c1 _ z (show (true, t) ∈ (D.link r i t).names by simp [D.names])]
    cases q : s.rt r with
    | none => rfl
    | some x =>
      dsimp only
      rw [lkl_st g (w.rt q)]
  | _ => rfl
theorem nv_st (w : s.WF) (h : d.clash e = false) : (s.st d).nv e = s.nv e := by
  obtain ⟨g, g2, l, p1, p2, c1, c2⟩ := cl h
  cases e with
  | write r i v =>
    simp only [S.nv, rt_st g fun z => c1 _ z (show (true, r) ∈ (D.write r i v).names by simp [D.names])]
    cases q : s.rt r with
    | none => rfl
    | some x =>
      dsimp only
      rw [nml_st g (by rw [w.nms]; exact w.rt q)]
  | _ => rfl
theorem put1_comm {α : Type} {l : List α} {p q : Option (Nat × α)} (h : ∀ a b, p = some a → q = some b → a.1 ≠ b.1) : put1 (put1 l p) q = put1 (put1 l q) p := by
  cases p with
  | none => rfl
  | some a => cases q with
    | none => rfl
    | some b => exact List.set_comm _ _ (h a b rfl rfl)
theorem put1_app {α : Type} {l m : List α} {p : Option (Nat × α)} (h : ∀ a, p = some a → a.1 < l.length) : put1 (l ++ m) p = put1 l p ++ m := by
  cases p with
  | none => rfl
  | some a => exact List.set_append_left _ _ (h a rfl)
theorem put2_app {α : Type} {l m : List (List α)} {p : Option (Nat × Nat × α)} (h : ∀ a, p = some a → a.1 < l.length) : put2 (l ++ m) p = put2 l p ++ m := by
  cases p with
  | none => rfl
  | some a =>
    obtain ⟨x, i, a⟩ := a
    have h := h _ rfl
    simp only [put2]
    rw [List.set_append_left _ _ h, List.getElem?_append_left h]
theorem rv_chg {r : Nat} {v : Option Nat} (h : s.rv d = some (r, v)) : d.chg = [(true, r)] := by
  cases d <;> simp [S.rv] at h <;> simp [D.chg]
  all_goals first | exact h.1 | (split at h <;> (try cases h); split at h <;> (try cases h); simp_all)
theorem wv_chg {r : Nat} {v : Option Nat} (h : s.wv d = some (r, v)) : d.chg = [(false, r)] := by
  cases d <;> simp [S.wv] at h <;> simp [D.chg]
  all_goals exact h.1
theorem chg_names : ∀ p ∈ d.chg, p ∈ d.names := by
  cases d <;> simp [D.chg, D.names]
theorem lv_lt (w : s.WF) : ∀ a, s.lv d = some a → a.1 < s.lks.length := by
  intro a h
  cases d with
  | link r i t =>
    simp only [S.lv] at h
    split at h
    · cases h
    · rename_i x hx
      split at h
      · cases h; exact w.rt hx
      · cases h
  | _ => cases h
theorem nv_lt (w : s.WF) : ∀ a, s.nv d = some a → a.1 < s.nms.length := by
  intro a h
  cases d with
  | write r i t =>
    simp only [S.nv] at h
    split at h
    · cases h
    · rename_i x hx
      split at h
      · cases h; rw [w.nms]; exact w.rt hx
      · cases h
  | _ => cases h
theorem mv_lt (w : s.WF) : ∀ a, (s.mv d).map (·, true) = some a → a.1 < s.mks.length := by
  intro a h
  cases d with
  | wish r =>
    simp only [S.mv] at h
    split at h
    · cases h
    · rename_i x hx
      split at h
      · cases h
      · cases h; rw [w.mks]; exact w.rt hx
  | _ => cases h
theorem put2_len {α : Type} {l : List (List α)} {p : Option (Nat × Nat × α)} : (put2 l p).length = l.length := by
  cases p <;> simp [put2]
theorem put1_len {α : Type} {l : List α} {p : Option (Nat × α)} : (put1 l p).length = l.length := by
  cases p <;> simp [put1]
/-- two deeds that do not clash, not both new: one store -/
theorem st_comm (w : s.WF) (h : d.clash e = false) (n : d.isN = false ∨ e.isN = false) : (s.st d).st e = (s.st e).st d := by
  have h' : e.clash d = false := by rw [D.clash_comm]; exact h
  obtain ⟨g, g2, l, p1, p2, c1, c2⟩ := cl h
  rw [st_eq g2 (s := s.st d), st_eq g (s := s.st e), rv_st w h n, rv_st w h' n.symm, wv_st w h, wv_st w h', mv_st w h, mv_st w h', lv_st w h, lv_st w h', nv_st w h, nv_st w h', st_eq g, st_eq g2]
  have N : ∀ {α : Type} {f : D → List α}, (∀ x : D, x.isN = false → f x = []) → f d = [] ∨ f e = [] := fun z => n.imp (z _) (z _)
  have N1 := N (f := D.nl) (by intro x hx; cases x <;> simp [D.isN, D.nl] at hx ⊢)
  have N2 := N (f := D.nn) (by intro x hx; cases x <;> simp [D.isN, D.nn] at hx ⊢)
  have N3 := N (f := D.nb) (by intro x hx; cases x <;> simp [D.isN, D.nb] at hx ⊢)
  congr 1
  · refine put1_comm fun a b ha hb z => ?_
    have q1 := rv_chg ha
    have q2 := rv_chg hb
    exact c1 (true, a.1) (by rw [q1]; simp) (chg_names _ (by rw [q2, z]; simp))
  · refine put1_comm fun a b ha hb z => ?_
    have q1 := wv_chg ha
    have q2 := wv_chg hb
    exact c1 (false, a.1) (by rw [q1]; simp) (chg_names _ (by rw [q2, z]; simp))
  · dsimp only
    rw [List.append_assoc, List.append_assoc]
    cases d <;> cases e <;> simp [D.ls] at l <;> simp [S.mv]
  · dsimp only
    cases d <;> cases e <;> simp [D.ls] at l <;> simp [D.isX]
  · dsimp only
    rw [put2_app (by rw [put2_len]; exact lv_lt w), put2_app (by rw [put2_len]; exact lv_lt w)]
    have : put2 (put2 s.lks (s.lv d)) (s.lv e) = put2 (put2 s.lks (s.lv e)) (s.lv d) := by
      cases d <;> cases e <;> simp [D.hp] at p1 <;> rfl
    rw [this, List.append_assoc, List.append_assoc]
    rcases N1 with q | q <;> rw [q] <;> simp
  · dsimp only
    rw [put2_app (by rw [put2_len]; exact nv_lt w), put2_app (by rw [put2_len]; exact nv_lt w)]
    have : put2 (put2 s.nms (s.nv d)) (s.nv e) = put2 (put2 s.nms (s.nv e)) (s.nv d) := by
      cases d <;> cases e <;> simp [D.hp] at p1 <;> rfl
    rw [this, List.append_assoc, List.append_assoc]
    rcases N2 with q | q <;> rw [q] <;> simp
  · dsimp only
    rw [put1_app (by rw [put1_len]; exact mv_lt w), put1_app (by rw [put1_len]; exact mv_lt w)]
    have : put1 (put1 s.mks ((s.mv d).map (·, true))) ((s.mv e).map (·, true)) = put1 (put1 s.mks ((s.mv e).map (·, true))) ((s.mv d).map (·, true)) := by
      cases d <;> cases e <;> simp [D.ls] at l <;> rfl
    rw [this, List.append_assoc, List.append_assoc]
    rcases N3 with q | q <;> rw [q] <;> simp
end
end PD

set_option Elab.async false
set_option linter.all false
namespace PD
/-! what is led to -/
theorem add_mem {y : Nat} : ∀ {xs : List (Option Nat)} {f : List Nat}, y ∈ add f xs ↔ y ∈ f ∨ some y ∈ xs
  | [], f => by simp [add]
  | none :: xs, f => by simp [add, add_mem (xs := xs)]
  | some x :: xs, f => by
    unfold add
    split
    · rename_i h
      rw [add_mem (xs := xs)]
      constructor
      · rintro (h | h)
        · exact .inl h
        · exact .inr (by simp [h])
      · rintro (h2 | h2)
        · exact .inl h2
        · rcases List.mem_cons.mp h2 with h2 | h2
          · cases h2; exact .inl h
          · exact .inr h2
    · rw [add_mem (xs := xs)]
      simp only [List.mem_append, List.mem_cons, Option.some.injEq, or_assoc, List.not_mem_nil, false_or]
theorem add_nodup : ∀ {xs : List (Option Nat)} {f : List Nat}, f.Nodup → (add f xs).Nodup
  | [], f, h => h
  | none :: xs, f, h => add_nodup (xs := xs) h
  | some x :: xs, f, h => by
    unfold add
    split
    · exact add_nodup h
    · rename_i n
      refine add_nodup (List.nodup_append.mpr ⟨h, by simp, fun a ha b hb e => ?_⟩)
      simp at hb
      subst hb
      exact n (e ▸ ha)
theorem add_pre : ∀ {xs : List (Option Nat)} {f : List Nat}, f <+: add f xs
  | [], f => List.prefix_refl f
  | none :: xs, f => add_pre (xs := xs)
  | some x :: xs, f => by
    unfold add
    split
    · exact add_pre
    · exact List.IsPrefix.trans ⟨[x], rfl⟩ add_pre
theorem add_map {π : Nat → Nat} (inj : ∀ x y, π x = π y → x = y) : ∀ {xs : List (Option Nat)} {f : List Nat}, add (f.map π) (xs.map (Option.map π)) = (add f xs).map π
  | [], f => rfl
  | none :: xs, f => add_map inj (xs := xs)
  | some x :: xs, f => by
    show add (f.map π) (some (π x) :: xs.map (Option.map π)) = _
    unfold add
    have : π x ∈ f.map π ↔ x ∈ f := by
      rw [List.mem_map]
      constructor
      · rintro ⟨y, hy, e⟩; exact inj _ _ e ▸ hy
      · intro h; exact ⟨x, h, rfl⟩
    by_cases h : x ∈ f
    · rw [if_pos h, if_pos (this.mpr h), add_map inj]
    · rw [if_neg h, if_neg fun z => h (this.mp z)]
      rw [show f.map π ++ [π x] = (f ++ [x]).map π by simp, add_map inj]
section
variable {lks : List (List (Option Nat))}
theorem ledGo_pre : ∀ {n : Nat} {f : List Nat} {i : Nat}, f <+: ledGo lks n f i
  | 0, f, _ => List.prefix_refl f
  | n + 1, f, i => by
    unfold ledGo
    split
    · exact List.IsPrefix.trans add_pre ledGo_pre
    · exact ledGo_pre
theorem ledGo_nodup : ∀ {n : Nat} {f : List Nat} {i : Nat}, f.Nodup → (ledGo lks n f i).Nodup
  | 0, f, _, h => h
  | n + 1, f, i, h => by
    unfold ledGo
    split
    · exact ledGo_nodup (add_nodup h)
    · exact ledGo_nodup h
theorem ledGo_lt {m : Nat} (hl : ∀ x y, some y ∈ lks.getD x [] → y < m) : ∀ {n : Nat} {f : List Nat} {i : Nat}, (∀ x ∈ f, x < m) → ∀ x ∈ ledGo lks n f i, x < m
  | 0, f, _, h => h
  | n + 1, f, i, h => by
    unfold ledGo
    split
    · refine ledGo_lt hl fun x hx => ?_
      rcases add_mem.mp hx with hx | hx
      · exact h x hx
      · exact hl _ _ hx
    · exact ledGo_lt hl h
theorem nodup_len {m : Nat} {f : List Nat} (h : f.Nodup) (hl : ∀ x ∈ f, x < m) : f.length ≤ m := by
  have := List.Nodup.length_le_of_subset (l₁ := f) (l₂ := List.range m) h fun x hx => List.mem_range.mpr (hl x hx)
  simpa using this
theorem ledGo_closed {m : Nat} (hl : ∀ x y, some y ∈ lks.getD x [] → y < m) : ∀ {n : Nat} {f : List Nat} {i : Nat}, f.Nodup → (∀ x ∈ f, x < m) → i ≤ f.length → m ≤ i + n →
    (∀ j x, j < i → f[j]? = some x → ∀ y, some y ∈ lks.getD x [] → y ∈ f) → ∀ x ∈ ledGo lks n f i, ∀ y, some y ∈ lks.getD x [] → y ∈ ledGo lks n f i
  | 0, f, i, nd, lt, le, big, pr => by
    intro x hx y hy
    obtain ⟨j, hj, e⟩ := List.getElem_of_mem hx
    have hj : j < f.length := hj
    have := nodup_len nd lt
    exact pr j x (by omega) (List.getElem?_eq_some_iff.mpr ⟨hj, e⟩) y hy
  | n + 1, f, i, nd, lt, le, big, pr => by
    unfold ledGo
    have lt2 : ∀ x, ∀ z ∈ add f (lks.getD x []), z < m := fun x z hz => by
      rcases add_mem.mp hz with hz | hz
      · exact lt z hz
      · exact hl _ _ hz
    cases q : f[i]? with
    | some x =>
      have hi := (List.getElem?_eq_some_iff.mp q).1
      obtain ⟨e, he⟩ := (add_pre (xs := lks.getD x []) (f := f))
      dsimp only
      refine ledGo_closed hl (add_nodup nd) (lt2 x) (by rw [← he]; simp; omega) (by omega) fun j z hj hz y hy => ?_
      by_cases h : j = i
      · subst h
        rw [← he, List.getElem?_append_left hi, q] at hz
        cases hz
        exact add_mem.mpr (.inr hy)
      · rw [← he, List.getElem?_append_left (by omega)] at hz
        exact add_mem.mpr (.inl (pr j z (by omega) hz y hy))
    | none =>
      have hi := List.getElem?_eq_none_iff.mp q
      dsimp only
      have : i = f.length := by omega
      have closed : ∀ x ∈ f, ∀ y, some y ∈ lks.getD x [] → y ∈ f := by
        intro x hx y hy
        obtain ⟨j, hj, e⟩ := List.getElem_of_mem hx
        exact pr j x (by omega) (List.getElem?_eq_some_iff.mpr ⟨hj, e⟩) y hy
      have still : ∀ n, ledGo lks n f i = f := by
        intro n
        induction n with
        | zero => rfl
        | succ n ih => unfold ledGo; rw [q]; exact ih
      rw [still n]
      exact closed
theorem ledGo_map {π : Nat → Nat} (inj : ∀ x y, π x = π y → x = y) {lkt : List (List (Option Nat))} (hl : ∀ x, lkt.getD (π x) [] = (lks.getD x []).map (Option.map π)) :
    ∀ {n : Nat} {f : List Nat} {i : Nat}, ledGo lkt n (f.map π) i = (ledGo lks n f i).map π
  | 0, f, _ => rfl
  | n + 1, f, i => by
    unfold ledGo
    rw [List.getElem?_map]
    cases f[i]? with
    | some x =>
      show ledGo lkt n (add (f.map π) (lkt.getD (π x) [])) (i + 1) = _
      rw [hl, add_map inj, ledGo_map inj hl]
    | none => exact ledGo_map inj hl
end
theorem S.lk_d (s : S) (x : Nat) : s.lks.getD x [] = s.lk x := by
  rw [List.getD_eq_getElem?_getD]; rfl
section
variable {s t : S} {π : Nat → Nat}
theorem led_nodup {xs : List (Option Nat)} : (s.led xs).Nodup := ledGo_nodup (add_nodup List.nodup_nil)
theorem led_has {xs : List (Option Nat)} {x : Nat} (h : some x ∈ xs) : x ∈ s.led xs := ledGo_pre.subset (add_mem.mpr (.inr h))
theorem led_lt (w : s.WF) {xs : List (Option Nat)} (hx : ∀ x, some x ∈ xs → x < s.lks.length) : ∀ x ∈ s.led xs, x < s.lks.length :=
  ledGo_lt (fun x y h => w.lk (by rw [← S.lk_d]; exact h)) fun x h => hx x (by simpa using add_mem.mp h)
theorem led_closed (w : s.WF) {xs : List (Option Nat)} (hx : ∀ x, some x ∈ xs → x < s.lks.length) {x y : Nat} (h : x ∈ s.led xs) (hy : some y ∈ s.lk x) : y ∈ s.led xs :=
  ledGo_closed (fun x y h => w.lk (by rw [← S.lk_d]; exact h)) (add_nodup List.nodup_nil) (fun x h => hx x (by simpa using add_mem.mp h)) (Nat.zero_le _) (by omega) (fun j _ hj => absurd hj (by omega)) x h y (by rw [S.lk_d]; exact hy)
theorem all_lt (w : s.WF) : ∀ x, some x ∈ s.all → x < s.lks.length := by
  intro x h
  unfold S.all at h
  simp only [List.mem_append, List.mem_map, Option.some.injEq, exists_eq_right] at h
  rcases h with ((h | h) | h) | h
  · exact w.root x h
  · exact w.weak x h
  · exact w.wish x h
  · exact w.queue x h
theorem order_lt (w : s.WF) : ∀ x ∈ s.order, x < s.lks.length := led_lt w (all_lt w)
theorem order_closed (w : s.WF) {x y : Nat} (h : x ∈ s.order) (hy : some y ∈ s.lk x) : y ∈ s.order := led_closed w (all_lt w) h hy
theorem order_nodup : s.order.Nodup := led_nodup
structure Iso (π : Nat → Nat) (s t : S) : Prop where
  inj : ∀ x y, π x = π y → x = y
  root : t.root = s.root.map (Option.map π)
  weak : t.weak = s.weak.map (Option.map π)
  wish : t.wish = s.wish.map π
  queue : t.queue = s.queue.map π
  len : t.lks.length = s.lks.length
  lk : ∀ x, t.lk (π x) = (s.lk x).map (Option.map π)
  nm : ∀ x, t.nm (π x) = s.nm x
  mks : ∀ x, t.mk_ (π x) = s.mk_ x
theorem Iso.led (h : Iso π s t) (xs : List (Option Nat)) : t.led (xs.map (Option.map π)) = (s.led xs).map π := by
  unfold S.led
  rw [h.len]
  have := add_map h.inj (xs := xs) (f := [])
  rw [show add [] (xs.map (Option.map π)) = (add [] xs).map π from this]
  exact ledGo_map h.inj fun x => by rw [S.lk_d, S.lk_d, h.lk]
theorem Iso.order (h : Iso π s t) : t.order = s.order.map π := by
  unfold S.order
  rw [← h.led]
  congr 1
  unfold S.all
  rw [h.root, h.weak, h.wish, h.queue]
  simp [Function.comp_def]
theorem idx_map (inj : ∀ x y, π x = π y → x = y) (x : Nat) : ∀ l : List Nat, (l.map π).idxOf (π x) = l.idxOf x
  | [] => rfl
  | y :: l => by
    rw [List.map_cons, List.idxOf_cons, List.idxOf_cons, idx_map inj x l]
    have : (π y == π x) = (y == x) := by
      rw [Bool.eq_iff_iff, beq_iff_eq, beq_iff_eq]
      exact ⟨inj _ _, fun e => e ▸ rfl⟩
    rw [this]
theorem Iso.pic (h : Iso π s t) : t.pic = s.pic := by
  have e : ∀ o : Option Nat, (Option.map π o).map (List.idxOf · (s.order.map π)) = o.map (List.idxOf · s.order) := by
    intro o
    cases o with
    | none => rfl
    | some x => exact congrArg some (idx_map h.inj x _)
  have e2 : ∀ l : List (Option Nat), (l.map (Option.map π)).map (Option.map (List.idxOf · (s.order.map π))) = l.map (Option.map (List.idxOf · s.order)) := by
    intro l
    rw [List.map_map]
    exact List.map_congr_left fun o _ => e o
  unfold S.pic
  rw [h.order, h.root, h.weak, h.wish, h.queue]
  congr 1
  · exact e2 _
  · exact e2 _
  · rw [List.map_map]; exact List.map_congr_left fun x _ => idx_map h.inj x _
  · rw [List.map_map]; exact List.map_congr_left fun x _ => idx_map h.inj x _
  · rw [List.map_map]
    refine List.map_congr_left fun x _ => ?_
    show ((t.lk (π x)).map _, t.nm (π x), t.mk_ (π x)) = _
    rw [h.lk, h.nm, h.mks, e2]
end
/-- two places exchanged -/
def swp (n x : Nat) : Nat := if x = n then n + 1 else if x = n + 1 then n else x
theorem swp_inj (n : Nat) : ∀ x y, swp n x = swp n y → x = y := by
  intro x y h
  unfold swp at h
  split at h <;> split at h <;> (try split at h) <;> (try split at h) <;> omega
theorem swp_lt {n x : Nat} (h : x < n) : swp n x = x := by
  unfold swp
  rw [if_neg (by omega), if_neg (by omega)]
theorem swp_map {n : Nat} {l : List (Option Nat)} (h : ∀ x, some x ∈ l → x < n) : l.map (Option.map (swp n)) = l := by
  conv => rhs; rw [← List.map_id l]
  refine List.map_congr_left fun o ho => ?_
  cases o with
  | none => rfl
  | some x => exact congrArg some (swp_lt (h x ho))
theorem swp_mapN {n : Nat} {l : List Nat} (h : ∀ x, x ∈ l → x < n) : l.map (swp n) = l := by
  conv => rhs; rw [← List.map_id l]
  exact List.map_congr_left fun x hx => swp_lt (h x hx)
theorem get2 {α : Type} (l : List α) (a b : α) (x : Nat) : ((l ++ [b]) ++ [a])[swp l.length x]? = ((l ++ [a]) ++ [b])[x]? := by
  by_cases h : x < l.length
  · rw [swp_lt h, List.append_assoc, List.append_assoc, List.getElem?_append_left h, List.getElem?_append_left h]
  · unfold swp
    split
    · subst x; simp
    · split
      · subst x; simp
      · rw [List.getElem?_eq_none (by simp; omega), List.getElem?_eq_none (by simp; omega)]
theorem new_new {s : S} (w : s.WF) {r a b q c d : Nat} (h : r ≠ q) : Iso (swp s.lks.length) ((s.st (.new r a b)).st (.new q c d)) ((s.st (.new q c d)).st (.new r a b)) := by
  refine ⟨swp_inj _, ?_, ?_, ?_, ?_, ?_, fun x => ?_, fun x => ?_, fun x => ?_⟩
  · simp only [S.st, S.do, List.map_set, swp_map w.root, Option.map, List.length_append, List.length_singleton]
    rw [show swp s.lks.length s.lks.length = s.lks.length + 1 by simp [swp], show swp s.lks.length (s.lks.length + 1) = s.lks.length by simp [swp], List.set_comm _ _ h]
  · exact (swp_map w.weak).symm
  · exact (swp_mapN w.wish).symm
  · exact (swp_mapN w.queue).symm
  · simp [S.st, S.do]
  · simp only [S.lk, S.st, S.do]
    rw [get2]
    have : ((((s.lks ++ [List.replicate a none]) ++ [List.replicate c none])[x]?).getD []).map (Option.map (swp s.lks.length)) = (((s.lks ++ [List.replicate a none]) ++ [List.replicate c none])[x]?).getD [] := by
      refine swp_map fun y hy => ?_
      cases e : ((s.lks ++ [List.replicate a none]) ++ [List.replicate c none])[x]? with
      | none => rw [e] at hy; cases hy
      | some l =>
        rw [e] at hy
        have m := List.mem_of_getElem? e
        rcases List.mem_append.mp m with m | m
        · rcases List.mem_append.mp m with m | m
          · exact w.lks l m y hy
          · simp at m; subst m; simp at hy
        · simp at m; subst m; simp at hy
    exact this.symm
  · simp only [S.nm, S.st, S.do]
    rw [← w.nms, get2]
  · simp only [S.mk_, S.st, S.do]
    rw [← w.mks, get2]
/-- two deeds that do not clash: one picture, the same answers -/
theorem pic_comm {s : S} (w : s.WF) {d e : D} (h : d.clash e = false) : ((s.st d).st e).pic = ((s.st e).st d).pic := by
  by_cases n : d.isN = false ∨ e.isN = false
  · rw [st_comm w h n]
  · cases d <;> cases e <;> simp [D.isN] at n
    rename_i r a b q c d
    have ne : r ≠ q := by
      rintro rfl
      simp [D.clash, D.chg, D.names] at h
    exact (new_new w ne).pic.symm
end PD

set_option Elab.async false
set_option linter.all false
set_option maxRecDepth 100000
set_option maxHeartbeats 4000000
namespace PD
open PySem PySem.Spec PyProof.Rows L2
/-! ### deeds as values -/
def D.us : D → List U
  | .new r a b => [.str "new", .int r, .int a, .int b]
  | .copy r s => [.str "copy", .int r, .int s]
  | .clear r => [.str "clear", .int r]
  | .link r i s => [.str "link", .int r, .int i, .int s]
  | .follow r s i => [.str "follow", .int r, .int s, .int i]
  | .write r i v => [.str "write", .int r, .int i, .int v]
  | .read r i => [.str "read", .int r, .int i]
  | .same r s => [.str "same", .int r, .int s]
  | .shape r => [.str "shape", .int r]
  | .weak w r => [.str "weak", .int w, .int r]
  | .look r w => [.str "look", .int r, .int w]
  | .wish r => [.str "wish", .int r]
  | .next r => [.str "next", .int r]
  | .gather => [.str "gather"]
def D.u (d : D) : U := .tup d.us
end PD

set_option Elab.async false
set_option linter.all false
set_option maxRecDepth 100000
set_option maxHeartbeats 4000000
namespace PD.K76
open PySem PySem.Spec PyProof.Rows L2
/-! ### the text by places -/
abbrev pw := PySem.Challenge.pw_heapworks_k76_deeds_that_clash
def top (i : Nat) : Stmt := pw.main.body.getD i (.Pass ⟨0, 0, 0, 0⟩)
/-- where the written part has its dicts and its errors -/
structure Glb where
  k_SHAPES : Addr
  e_HeapError : Addr
  fI : Addr
  e_InvalidDeed : Addr
def t_SHAPES : List (Str × U) := [("new", .str "rpp"), ("copy", .str "rr"), ("clear", .str "r"), ("link", .str "rir"), ("follow", .str "rri"), ("write", .str "rin"), ("read", .str "ri"), ("same", .str "rr"), ("shape", .str "r"), ("weak", .str "ir"), ("look", .str "ri"), ("wish", .str "r"), ("next", .str "r"), ("gather", .str "")]
def Glb.tab (G : Glb) : Addr → Option (List (Str × U)) := fun a => if a = G.k_SHAPES then some t_SHAPES else none
def Glb.hit (G : Glb) : Addr → Option Bool := fun C => if C = G.e_InvalidDeed then some true else none
def Glb.is_InvalidDeed (G : Glb) : Addr → Option Bool := fun C => if C = G.e_InvalidDeed then some true else none
def Glb.isErr (G : Glb) : Addr → Bool := fun C => decide (C = G.e_InvalidDeed)
/-- what the top has written -/
structure Txt (P : Program) (w : World) (K : PySem.W.Frag) (mg : Str → Option Value) (G : Glb) : Prop where
  b_abs : mg "abs" = none
  b_all : mg "all" = none
  b_any : mg "any" = none
  b_bool : mg "bool" = none
  b_dict : mg "dict" = none
  b_enumerate : mg "enumerate" = none
  b_int : mg "int" = none
  b_isinstance : mg "isinstance" = none
  b_len : mg "len" = none
  b_list : mg "list" = none
  b_max : mg "max" = none
  b_min : mg "min" = none
  b_range : mg "range" = none
  b_repr : mg "repr" = none
  b_str : mg "str" = none
  b_tuple : mg "tuple" = none
  b_zip : mg "zip" = none
  k_MOST_ROOTS : Glo K mg "MOST_ROOTS" (.int 6)
  k_MOST_NUMBER : Glo K mg "MOST_NUMBER" (.int 1000)
  k_SHAPES : Glo K mg "SHAPES" (.adr G.k_SHAPES)
  k_OF_HEAP : Glo K mg "OF_HEAP" (.tup [(.tup [(.str "link"), (.str "link")]), (.tup [(.str "link"), (.str "follow")]), (.tup [(.str "write"), (.str "write")]), (.tup [(.str "write"), (.str "read")])])
  k_LISTS : Glo K mg "LISTS" (.tup [(.str "wish"), (.str "next")])
  k_CHANGING : Glo K mg "CHANGING" (.tup [(.str "new"), (.str "copy"), (.str "clear"), (.str "follow"), (.str "look"), (.str "next")])
  tab : ∀ d t, G.tab d = some t → Wrt K w d t
  errB : ErrB P K mg G.e_HeapError G.fI
  e_HeapError : mg "HeapError" = some (.ref G.e_HeapError)
  hit : ∀ C b, G.hit C = some b → PySem.W.exmOne K (.ref C) (.ref G.e_HeapError) = some b
  errV : ∀ C, G.isErr C = true → XfC K C ∧ PySem.W.findIn K (.ref C) "value" = some none
  e_InvalidDeed : mg "InvalidDeed" = some (.ref G.e_InvalidDeed)
  err_InvalidDeed : ErrC K G.e_InvalidDeed G.e_HeapError G.fI
  is_InvalidDeed : ∀ C b, G.is_InvalidDeed C = some b → ExcC K C ∧ PySem.W.kitOne K (.ref C) (.ref G.e_InvalidDeed) = some b
  no_InvalidDeed : PySem.W.kitOne K (.type "NoneType") (.ref G.e_InvalidDeed) = some false
/-! ### _law_well -/
abbrev st_u_law_well : Stmt := top 23
theorem s_u_law_well : FnScope ["script", "k", "cell", "whole", "part", "mixed"] ["script", "k"] (defScope st_u_law_well) := ⟨rfl, rfl, rfl, by decide +kernel, rfl, by decide +kernel, by decide +kernel⟩
noncomputable def c_u_law_well (G : Glb) : SM :=
  seq (asgS (ifE (asB (bin ltU (vE 1) (callA (on1 lenU) (consA (vE 0) (nilA))))) (callA (on1 intU) (consA (bin (sbU G.tab) (vE 0) (vE 1)) (nilA))) (bin (addU false) (bin (mulU false) (cE (.int 71)) (vE 1)) (cE (.int 37)))) (nmG 2)) (seq (asgS (bin (addU false) (cE (.int 29)) (callA (on1 lenU) (consA (vE 0) (nilA)))) (nmG 3)) (seq (forS (walkA (vE 0)) (nmG 4) (asgS (bin modU (callA (on1 intU) (consA (bin (addU false) (bin (mulU false) (vE 3) (cE (.int 5323))) (bin modU (callA (on1 intU) (consA (vE 4) (nilA))) (bin (addU false) (bin powU (cE (.int 10)) (cE (.int 19))) (cE (.int 51))))) (nilA))) (bin (addU false) (bin powU (cE (.int 10)) (cE (.int 25))) (cE (.int 13)))) (nmG 3))) (seq (asgS (bin modU (callA (on1 intU) (consA (bin (addU false) (bin (addU false) (bin (addU false) (bin (mulU false) (callA (on1 absU) (consA (vE 2) (nilA))) (cE (.int 7129))) (bin (mulU false) (vE 3) (cE (.int 41)))) (bin (mulU false) (cE (.int 3)) (callA (on1 intU) (consA (bin ltU (vE 2) (cE (.int 0))) (nilA))))) (bin (mulU false) (cE (.int 61)) (vE 1))) (nilA))) (bin (addU false) (bin powU (cE (.int 10)) (cE (.int 28))) (cE (.int 331)))) (nmG 5)) (retS (lstE true (consA (callA (on2 max2U) (consA (cE (.int 0)) (consA (bin subU (callA (on1 absU) (consA (vE 2) (nilA))) (bin powU (cE (.int 10)) (cE (.int 18)))) (nilA)))) (consA (vE 5) (consA (cE (.int 0)) (nilA)))))))))
noncomputable def f_u_law_well (G : Glb) : List U → IH → R U := fnR 6 2 (c_u_law_well G)
theorem g_u_law_well {P : Program} {w : World} {K : PySem.W.Frag} {mg : Str → Option Value} {base : Heap} {G : Glb} (T : Txt P w K mg G) {f : Addr} {fd : FuncData} (F : L2.Fun K "_law_well" "_law_well" st_u_law_well f fd) : FnG P w K mg base 1 f fd ["script", "k"] (spI K 2 (f_u_law_well G)) := by
  have z : FnG P w K mg base 1 f fd ["script", "k"] (spI K 2 (fnR 6 2 (c_u_law_well G))) := fn_n F s_u_law_well rfl rfl (b := c_u_law_well G) fun cd A out s H E B =>
    (is_cons (is_set (i := 2) s_u_law_well.nd rfl (by first | exact Or.inl rfl | exact Or.inr rfl) (ie_if (it_cmp op_lt cmpU_noe cmpU_ok (ie_v (i := 1) rfl (by first | exact Or.inl rfl | exact Or.inr (Or.inl rfl) | exact Or.inr (Or.inr rfl))) (ie_len (by exact rfl) T.b_len (ia_cons (ie_v (i := 0) rfl (by first | exact Or.inl rfl | exact Or.inr (Or.inl rfl) | exact Or.inr (Or.inr rfl))) ia_nil)) (nomark _)) (ie_int1 (by exact rfl) T.b_int (ia_cons (ie_sub_ B T.tab (ie_v (i := 0) rfl (by first | exact Or.inl rfl | exact Or.inr (Or.inl rfl) | exact Or.inr (Or.inr rfl))) (ie_v (i := 1) rfl (by first | exact Or.inl rfl | exact Or.inr (Or.inl rfl) | exact Or.inr (Or.inr rfl)))) ia_nil)) (ie_add false (ie_mul false ie_int (ie_v (i := 1) rfl (by first | exact Or.inl rfl | exact Or.inr (Or.inl rfl) | exact Or.inr (Or.inr rfl)))) ie_int))) (is_cons (is_set (i := 3) s_u_law_well.nd rfl (by first | exact Or.inl rfl | exact Or.inr rfl) (ie_add false ie_int (ie_len (by exact rfl) T.b_len (ia_cons (ie_v (i := 0) rfl (by first | exact Or.inl rfl | exact Or.inr (Or.inl rfl) | exact Or.inr (Or.inr rfl))) ia_nil)))) (is_cons (is_for B.own B.calm (ii_any (ie_v (i := 0) rfl (by first | exact Or.inl rfl | exact Or.inr (Or.inl rfl) | exact Or.inr (Or.inr rfl)))) (ig_name (i := 4) s_u_law_well.nd rfl (by first | exact Or.inl rfl | exact Or.inr rfl)) (is_one (is_set (i := 3) s_u_law_well.nd rfl (by first | exact Or.inl rfl | exact Or.inr rfl) (ie_mod (ie_int1 (by exact rfl) T.b_int (ia_cons (ie_add false (ie_mul false (ie_v (i := 3) rfl (by first | exact Or.inl rfl | exact Or.inr (Or.inl rfl) | exact Or.inr (Or.inr rfl))) ie_int) (ie_mod (ie_int1 (by exact rfl) T.b_int (ia_cons (ie_v (i := 4) rfl (by first | exact Or.inl rfl | exact Or.inr (Or.inl rfl) | exact Or.inr (Or.inr rfl))) ia_nil)) (ie_add false (ie_pow ie_int ie_int) ie_int))) ia_nil)) (ie_add false (ie_pow ie_int ie_int) ie_int))))) (is_cons (is_set (i := 5) s_u_law_well.nd rfl (by first | exact Or.inl rfl | exact Or.inr rfl) (ie_mod (ie_int1 (by exact rfl) T.b_int (ia_cons (ie_add false (ie_add false (ie_add false (ie_mul false (ie_abs (by exact rfl) T.b_abs (ia_cons (ie_v (i := 2) rfl (by first | exact Or.inl rfl | exact Or.inr (Or.inl rfl) | exact Or.inr (Or.inr rfl))) ia_nil)) ie_int) (ie_mul false (ie_v (i := 3) rfl (by first | exact Or.inl rfl | exact Or.inr (Or.inl rfl) | exact Or.inr (Or.inr rfl))) ie_int)) (ie_mul false ie_int (ie_int1 (by exact rfl) T.b_int (ia_cons (ie_cmp op_lt cmpU_noe cmpU_ok (ie_v (i := 2) rfl (by first | exact Or.inl rfl | exact Or.inr (Or.inl rfl) | exact Or.inr (Or.inr rfl))) ie_int (nomark _)) ia_nil)))) (ie_mul false ie_int (ie_v (i := 1) rfl (by first | exact Or.inl rfl | exact Or.inr (Or.inl rfl) | exact Or.inr (Or.inr rfl))))) ia_nil)) (ie_add false (ie_pow ie_int ie_int) ie_int))) (is_one (is_ret (ie_lst true (ia_cons (ie_max2 B.calm (by exact rfl) T.b_max (ia_cons ie_int (ia_cons (ie_sub (ie_abs (by exact rfl) T.b_abs (ia_cons (ie_v (i := 2) rfl (by first | exact Or.inl rfl | exact Or.inr (Or.inl rfl) | exact Or.inr (Or.inr rfl))) ia_nil)) (ie_pow ie_int ie_int)) ia_nil))) (ia_cons (ie_v (i := 5) rfl (by first | exact Or.inl rfl | exact Or.inr (Or.inl rfl) | exact Or.inr (Or.inr rfl))) (ia_cons ie_int ia_nil))))))))))
  exact z
/-! ### _law_draw -/
abbrev st_u_law_draw : Stmt := top 24
theorem s_u_law_draw : FnScope ["well", "many", "found", "step", "mixed"] ["well", "many"] (defScope st_u_law_draw) := ⟨rfl, rfl, rfl, by decide +kernel, rfl, by decide +kernel, by decide +kernel⟩
noncomputable def c_u_law_draw (G : Glb) : SM :=
  seq (ifS (asB (bin gtU (bin (sbU G.tab) (vE 0) (cE (.int 0))) (cE (.int 0)))) (seq (asgS (bin modU (callA (on1 intU) (consA (bin (sbU G.tab) (vE 0) (cE (.int 0))) (nilA))) (vE 1)) (nmG 2)) (seq (asgS (bin divU (bin (sbU G.tab) (vE 0) (cE (.int 0))) (vE 1)) (subG (vE 0) (cE (.int 0)) putX)) (retS (vE 2)))) (nxS)) (seq (asgS (bin (addU false) (bin (sbU G.tab) (vE 0) (cE (.int 2))) (cE (.int 1))) (subG (vE 0) (cE (.int 2)) putX)) (seq (asgS (bin (sbU G.tab) (vE 0) (cE (.int 2))) (nmG 3)) (seq (asgS (bin modU (callA (on1 intU) (consA (bin (addU false) (bin (addU false) (bin (mulU false) (bin (mulU false) (bin (addU false) (bin (sbU G.tab) (vE 0) (cE (.int 1))) (cE (.int 31))) (bin (addU false) (vE 3) (cE (.int 5)))) (cE (.int 998244353))) (bin (mulU false) (bin (mulU false) (bin (mulU false) (vE 3) (vE 3)) (vE 3)) (cE (.int 424242427)))) (cE (.int 77))) (nilA))) (bin (addU false) (bin powU (cE (.int 10)) (cE (.int 29))) (cE (.int 319)))) (nmG 4)) (seq (asgS (bin modU (callA (on1 intU) (consA (bin (addU false) (bin (addU false) (bin (mulU false) (vE 4) (vE 4)) (bin (mulU false) (bin (sbU G.tab) (vE 0) (cE (.int 1))) (cE (.int 7)))) (vE 3)) (nilA))) (bin (addU false) (bin powU (cE (.int 10)) (cE (.int 31))) (cE (.int 33)))) (nmG 4)) (seq (asgS (bin modU (callA (on1 intU) (consA (bin (addU false) (bin (mulU false) (bin (mulU false) (vE 4) (vE 4)) (cE (.int 3))) (bin (mulU false) (vE 4) (cE (.int 11)))) (nilA))) (bin (addU false) (bin powU (cE (.int 10)) (cE (.int 33))) (cE (.int 603)))) (nmG 4)) (retS (bin modU (callA (on1 intU) (consA (bin divU (vE 4) (cE (.int 50021))) (nilA))) (vE 1))))))))
noncomputable def f_u_law_draw (G : Glb) : List U → IH → R U := fnR 5 2 (c_u_law_draw G)
theorem g_u_law_draw {P : Program} {w : World} {K : PySem.W.Frag} {mg : Str → Option Value} {base : Heap} {G : Glb} (T : Txt P w K mg G) {f : Addr} {fd : FuncData} (F : L2.Fun K "_law_draw" "_law_draw" st_u_law_draw f fd) : FnG P w K mg base 1 f fd ["well", "many"] (spI K 2 (f_u_law_draw G)) := by
  have z : FnG P w K mg base 1 f fd ["well", "many"] (spI K 2 (fnR 5 2 (c_u_law_draw G))) := fn_n F s_u_law_draw rfl rfl (b := c_u_law_draw G) fun cd A out s H E B =>
    (is_cons (is_if (it_cmp op_gt cmpU_noe cmpU_ok (ie_sub_ B T.tab (ie_v (i := 0) rfl (by first | exact Or.inl rfl | exact Or.inr (Or.inl rfl) | exact Or.inr (Or.inr rfl))) ie_int) ie_int (nomark _)) (is_cons (is_set (i := 2) s_u_law_draw.nd rfl (by first | exact Or.inl rfl | exact Or.inr rfl) (ie_mod (ie_int1 (by exact rfl) T.b_int (ia_cons (ie_sub_ B T.tab (ie_v (i := 0) rfl (by first | exact Or.inl rfl | exact Or.inr (Or.inl rfl) | exact Or.inr (Or.inr rfl))) ie_int) ia_nil)) (ie_v (i := 1) rfl (by first | exact Or.inl rfl | exact Or.inr (Or.inl rfl) | exact Or.inr (Or.inr rfl))))) (is_cons (is_asg (ie_div (ie_sub_ B T.tab (ie_v (i := 0) rfl (by first | exact Or.inl rfl | exact Or.inr (Or.inl rfl) | exact Or.inr (Or.inr rfl))) ie_int) (ie_v (i := 1) rfl (by first | exact Or.inl rfl | exact Or.inr (Or.inl rfl) | exact Or.inr (Or.inr rfl)))) (ig_sub B (ie_v (i := 0) rfl (by first | exact Or.inl rfl | exact Or.inr (Or.inl rfl) | exact Or.inr (Or.inr rfl))) ie_int)) (is_one (is_ret (ie_v (i := 2) rfl (by first | exact Or.inl rfl | exact Or.inr (Or.inl rfl) | exact Or.inr (Or.inr rfl))))))) is_nil) (is_cons (is_asg (ie_add false (ie_sub_ B T.tab (ie_v (i := 0) rfl (by first | exact Or.inl rfl | exact Or.inr (Or.inl rfl) | exact Or.inr (Or.inr rfl))) ie_int) ie_int) (ig_sub B (ie_v (i := 0) rfl (by first | exact Or.inl rfl | exact Or.inr (Or.inl rfl) | exact Or.inr (Or.inr rfl))) ie_int)) (is_cons (is_set (i := 3) s_u_law_draw.nd rfl (by first | exact Or.inl rfl | exact Or.inr rfl) (ie_sub_ B T.tab (ie_v (i := 0) rfl (by first | exact Or.inl rfl | exact Or.inr (Or.inl rfl) | exact Or.inr (Or.inr rfl))) ie_int)) (is_cons (is_set (i := 4) s_u_law_draw.nd rfl (by first | exact Or.inl rfl | exact Or.inr rfl) (ie_mod (ie_int1 (by exact rfl) T.b_int (ia_cons (ie_add false (ie_add false (ie_mul false (ie_mul false (ie_add false (ie_sub_ B T.tab (ie_v (i := 0) rfl (by first | exact Or.inl rfl | exact Or.inr (Or.inl rfl) | exact Or.inr (Or.inr rfl))) ie_int) ie_int) (ie_add false (ie_v (i := 3) rfl (by first | exact Or.inl rfl | exact Or.inr (Or.inl rfl) | exact Or.inr (Or.inr rfl))) ie_int)) ie_int) (ie_mul false (ie_mul false (ie_mul false (ie_v (i := 3) rfl (by first | exact Or.inl rfl | exact Or.inr (Or.inl rfl) | exact Or.inr (Or.inr rfl))) (ie_v (i := 3) rfl (by first | exact Or.inl rfl | exact Or.inr (Or.inl rfl) | exact Or.inr (Or.inr rfl)))) (ie_v (i := 3) rfl (by first | exact Or.inl rfl | exact Or.inr (Or.inl rfl) | exact Or.inr (Or.inr rfl)))) ie_int)) ie_int) ia_nil)) (ie_add false (ie_pow ie_int ie_int) ie_int))) (is_cons (is_set (i := 4) s_u_law_draw.nd rfl (by first | exact Or.inl rfl | exact Or.inr rfl) (ie_mod (ie_int1 (by exact rfl) T.b_int (ia_cons (ie_add false (ie_add false (ie_mul false (ie_v (i := 4) rfl (by first | exact Or.inl rfl | exact Or.inr (Or.inl rfl) | exact Or.inr (Or.inr rfl))) (ie_v (i := 4) rfl (by first | exact Or.inl rfl | exact Or.inr (Or.inl rfl) | exact Or.inr (Or.inr rfl)))) (ie_mul false (ie_sub_ B T.tab (ie_v (i := 0) rfl (by first | exact Or.inl rfl | exact Or.inr (Or.inl rfl) | exact Or.inr (Or.inr rfl))) ie_int) ie_int)) (ie_v (i := 3) rfl (by first | exact Or.inl rfl | exact Or.inr (Or.inl rfl) | exact Or.inr (Or.inr rfl)))) ia_nil)) (ie_add false (ie_pow ie_int ie_int) ie_int))) (is_cons (is_set (i := 4) s_u_law_draw.nd rfl (by first | exact Or.inl rfl | exact Or.inr rfl) (ie_mod (ie_int1 (by exact rfl) T.b_int (ia_cons (ie_add false (ie_mul false (ie_mul false (ie_v (i := 4) rfl (by first | exact Or.inl rfl | exact Or.inr (Or.inl rfl) | exact Or.inr (Or.inr rfl))) (ie_v (i := 4) rfl (by first | exact Or.inl rfl | exact Or.inr (Or.inl rfl) | exact Or.inr (Or.inr rfl)))) ie_int) (ie_mul false (ie_v (i := 4) rfl (by first | exact Or.inl rfl | exact Or.inr (Or.inl rfl) | exact Or.inr (Or.inr rfl))) ie_int)) ia_nil)) (ie_add false (ie_pow ie_int ie_int) ie_int))) (is_one (is_ret (ie_mod (ie_int1 (by exact rfl) T.b_int (ia_cons (ie_div (ie_v (i := 4) rfl (by first | exact Or.inl rfl | exact Or.inr (Or.inl rfl) | exact Or.inr (Or.inr rfl))) ie_int) ia_nil)) (ie_v (i := 1) rfl (by first | exact Or.inl rfl | exact Or.inr (Or.inl rfl) | exact Or.inr (Or.inr rfl))))))))))))
  exact z
/-! ### _law_deed -/
abbrev st_u_law_deed : Stmt := top 25
theorem s_u_law_deed : FnScope ["well", "roots", "r", "s", "i", "way", "w", "rest"] ["well", "roots"] (defScope st_u_law_deed) := ⟨rfl, rfl, rfl, by decide +kernel, rfl, by decide +kernel, by decide +kernel⟩
noncomputable def c_u_law_deed (G : Glb) : SM :=
  seq (par3 2 3 4 (consA (callF 2 (f_u_law_draw G) (consA (vE 0) (consA (vE 1) (nilA)))) (consA (callF 2 (f_u_law_draw G) (consA (vE 0) (consA (vE 1) (nilA)))) (consA (callF 2 (f_u_law_draw G) (consA (vE 0) (consA (bin (sbU G.tab) (lstE false (consA (cE (.int 2)) (consA (cE (.int 4)) (nilA)))) (callF 2 (f_u_law_draw G) (consA (vE 0) (consA (cE (.int 2)) (nilA))))) (nilA)))) (nilA))))) (seq (par2 5 6 (consA (callF 2 (f_u_law_draw G) (consA (vE 0) (consA (cE (.int 22)) (nilA)))) (consA (callF 2 (f_u_law_draw G) (consA (vE 0) (consA (cE (.int 4)) (nilA)))) (nilA)))) (seq (ifS (asB (bin ltU (vE 5) (cE (.int 5)))) (retS (tupE (consA (cE (.str "new")) (consA (vE 2) (consA (callF 2 (f_u_law_draw G) (consA (vE 0) (consA (cE (.int 4)) (nilA)))) (consA (callF 2 (f_u_law_draw G) (consA (vE 0) (consA (cE (.int 3)) (nilA)))) (nilA))))))) (nxS)) (seq (ifS (asB (bin ltU (vE 5) (cE (.int 9)))) (retS (tupE (consA (cE (.str "link")) (consA (vE 2) (consA (vE 4) (consA (vE 3) (nilA))))))) (nxS)) (seq (ifS (asB (bin ltU (vE 5) (cE (.int 12)))) (retS (bin (sbU G.tab) (lstE false (consA (tupE (consA (cE (.str "follow")) (consA (vE 2) (consA (vE 3) (consA (vE 4) (nilA)))))) (consA (tupE (consA (cE (.str "copy")) (consA (vE 2) (consA (vE 3) (nilA))))) (consA (tupE (consA (cE (.str "clear")) (consA (vE 2) (nilA)))) (nilA))))) (bin subU (vE 5) (cE (.int 9))))) (nxS)) (seq (ifS (asB (bin ltU (vE 5) (cE (.int 14)))) (retS (tupE (consA (cE (.str "write")) (consA (vE 2) (consA (vE 4) (consA (bin (sbU G.tab) (lstE false (consA (bin subU (callF 2 (f_u_law_draw G) (consA (vE 0) (consA (cE (.int 9)) (nilA)))) (cE (.int 4))) (consA (cE (.int 1000)) (consA (negE (cE (.int 1000))) (nilA))))) (callF 2 (f_u_law_draw G) (consA (vE 0) (consA (cE (.int 3)) (nilA))))) (nilA))))))) (nxS)) (seq (asgS (lstE false (consA (tupE (consA (cE (.str "read")) (consA (vE 2) (consA (vE 4) (nilA))))) (consA (tupE (consA (cE (.str "same")) (consA (vE 2) (consA (vE 3) (nilA))))) (consA (tupE (consA (cE (.str "shape")) (consA (vE 2) (nilA)))) (consA (tupE (consA (cE (.str "weak")) (consA (vE 6) (consA (vE 2) (nilA))))) (consA (tupE (consA (cE (.str "look")) (consA (vE 2) (consA (vE 6) (nilA))))) (consA (tupE (consA (cE (.str "wish")) (consA (vE 2) (nilA)))) (consA (tupE (consA (cE (.str "next")) (consA (vE 2) (nilA)))) (nilA))))))))) (nmG 7)) (retS (bin (sbU G.tab) (bin (addU false) (vE 7) (lstE false (consA (tupE (consA (cE (.str "gather")) (nilA))) (nilA)))) (bin subU (vE 5) (cE (.int 14)))))))))))
noncomputable def f_u_law_deed (G : Glb) : List U → IH → R U := popF (fnR 8 2 (c_u_law_deed G))
theorem g_u_law_deed {P : Program} {w : World} {K : PySem.W.Frag} {mg : Str → Option Value} {base : Heap} {G : Glb} (T : Txt P w K mg G) (C_u_law_draw : Cal P w K mg base 1 "_law_draw" 2 (f_u_law_draw G)) {f : Addr} {fd : FuncData} (F : L2.Fun K "_law_deed" "_law_deed" st_u_law_deed f fd) : FnG P w K mg base 2 f fd ["well", "roots"] (spI K 2 (f_u_law_deed G)) := by
  have z : FnG P w K mg base 2 f fd ["well", "roots"] (spI K 2 (fnR 8 2 (c_u_law_deed G))) := fn_n F s_u_law_deed rfl rfl (b := c_u_law_deed G) fun cd A out s H E B =>
    (is_cons (is_par3 (i := 2) (j := 3) (l := 4) B.calm s_u_law_deed.nd rfl rfl rfl (by decide) (by decide) (by decide) rfl rfl rfl (ia_cons (ie_call C_u_law_draw B (by first | decide | exact Nat.le_refl _) (by exact rfl) (ia_cons (ie_v (i := 0) rfl (by first | exact Or.inl rfl | exact Or.inr (Or.inl rfl) | exact Or.inr (Or.inr rfl))) (ia_cons (ie_v (i := 1) rfl (by first | exact Or.inl rfl | exact Or.inr (Or.inl rfl) | exact Or.inr (Or.inr rfl))) ia_nil))) (ia_cons (ie_call C_u_law_draw B (by first | decide | exact Nat.le_refl _) (by exact rfl) (ia_cons (ie_v (i := 0) rfl (by first | exact Or.inl rfl | exact Or.inr (Or.inl rfl) | exact Or.inr (Or.inr rfl))) (ia_cons (ie_v (i := 1) rfl (by first | exact Or.inl rfl | exact Or.inr (Or.inl rfl) | exact Or.inr (Or.inr rfl))) ia_nil))) (ia_cons (ie_call C_u_law_draw B (by first | decide | exact Nat.le_refl _) (by exact rfl) (ia_cons (ie_v (i := 0) rfl (by first | exact Or.inl rfl | exact Or.inr (Or.inl rfl) | exact Or.inr (Or.inr rfl))) (ia_cons (ie_sub_ B T.tab (ie_lst false (ia_cons ie_int (ia_cons ie_int ia_nil))) (ie_call C_u_law_draw B (by first | decide | exact Nat.le_refl _) (by exact rfl) (ia_cons (ie_v (i := 0) rfl (by first | exact Or.inl rfl | exact Or.inr (Or.inl rfl) | exact Or.inr (Or.inr rfl))) (ia_cons ie_int ia_nil)))) ia_nil))) ia_nil))) (by with_unfolding_all rfl)) (is_cons (is_par (i := 5) (j := 6) B.calm s_u_law_deed.nd rfl rfl (by decide) rfl rfl (ia_cons (ie_call C_u_law_draw B (by first | decide | exact Nat.le_refl _) (by exact rfl) (ia_cons (ie_v (i := 0) rfl (by first | exact Or.inl rfl | exact Or.inr (Or.inl rfl) | exact Or.inr (Or.inr rfl))) (ia_cons ie_int ia_nil))) (ia_cons (ie_call C_u_law_draw B (by first | decide | exact Nat.le_refl _) (by exact rfl) (ia_cons (ie_v (i := 0) rfl (by first | exact Or.inl rfl | exact Or.inr (Or.inl rfl) | exact Or.inr (Or.inr rfl))) (ia_cons ie_int ia_nil))) ia_nil)) (by with_unfolding_all rfl)) (is_cons (is_if (it_cmp op_lt cmpU_noe cmpU_ok (ie_v (i := 5) rfl (by first | exact Or.inl rfl | exact Or.inr (Or.inl rfl) | exact Or.inr (Or.inr rfl))) ie_int (nomark _)) (is_one (is_ret (ie_tup (ia_cons ie_str (ia_cons (ie_v (i := 2) rfl (by first | exact Or.inl rfl | exact Or.inr (Or.inl rfl) | exact Or.inr (Or.inr rfl))) (ia_cons (ie_call C_u_law_draw B (by first | decide | exact Nat.le_refl _) (by exact rfl) (ia_cons (ie_v (i := 0) rfl (by first | exact Or.inl rfl | exact Or.inr (Or.inl rfl) | exact Or.inr (Or.inr rfl))) (ia_cons ie_int ia_nil))) (ia_cons (ie_call C_u_law_draw B (by first | decide | exact Nat.le_refl _) (by exact rfl) (ia_cons (ie_v (i := 0) rfl (by first | exact Or.inl rfl | exact Or.inr (Or.inl rfl) | exact Or.inr (Or.inr rfl))) (ia_cons ie_int ia_nil))) ia_nil))))))) is_nil) (is_cons (is_if (it_cmp op_lt cmpU_noe cmpU_ok (ie_v (i := 5) rfl (by first | exact Or.inl rfl | exact Or.inr (Or.inl rfl) | exact Or.inr (Or.inr rfl))) ie_int (nomark _)) (is_one (is_ret (ie_tup (ia_cons ie_str (ia_cons (ie_v (i := 2) rfl (by first | exact Or.inl rfl | exact Or.inr (Or.inl rfl) | exact Or.inr (Or.inr rfl))) (ia_cons (ie_v (i := 4) rfl (by first | exact Or.inl rfl | exact Or.inr (Or.inl rfl) | exact Or.inr (Or.inr rfl))) (ia_cons (ie_v (i := 3) rfl (by first | exact Or.inl rfl | exact Or.inr (Or.inl rfl) | exact Or.inr (Or.inr rfl))) ia_nil))))))) is_nil) (is_cons (is_if (it_cmp op_lt cmpU_noe cmpU_ok (ie_v (i := 5) rfl (by first | exact Or.inl rfl | exact Or.inr (Or.inl rfl) | exact Or.inr (Or.inr rfl))) ie_int (nomark _)) (is_one (is_ret (ie_sub_ B T.tab (ie_lst false (ia_cons (ie_tup (ia_cons ie_str (ia_cons (ie_v (i := 2) rfl (by first | exact Or.inl rfl | exact Or.inr (Or.inl rfl) | exact Or.inr (Or.inr rfl))) (ia_cons (ie_v (i := 3) rfl (by first | exact Or.inl rfl | exact Or.inr (Or.inl rfl) | exact Or.inr (Or.inr rfl))) (ia_cons (ie_v (i := 4) rfl (by first | exact Or.inl rfl | exact Or.inr (Or.inl rfl) | exact Or.inr (Or.inr rfl))) ia_nil))))) (ia_cons (ie_tup (ia_cons ie_str (ia_cons (ie_v (i := 2) rfl (by first | exact Or.inl rfl | exact Or.inr (Or.inl rfl) | exact Or.inr (Or.inr rfl))) (ia_cons (ie_v (i := 3) rfl (by first | exact Or.inl rfl | exact Or.inr (Or.inl rfl) | exact Or.inr (Or.inr rfl))) ia_nil)))) (ia_cons (ie_tup (ia_cons ie_str (ia_cons (ie_v (i := 2) rfl (by first | exact Or.inl rfl | exact Or.inr (Or.inl rfl) | exact Or.inr (Or.inr rfl))) ia_nil))) ia_nil)))) (ie_sub (ie_v (i := 5) rfl (by first | exact Or.inl rfl | exact Or.inr (Or.inl rfl) | exact Or.inr (Or.inr rfl))) ie_int)))) is_nil) (is_cons (is_if (it_cmp op_lt cmpU_noe cmpU_ok (ie_v (i := 5) rfl (by first | exact Or.inl rfl | exact Or.inr (Or.inl rfl) | exact Or.inr (Or.inr rfl))) ie_int (nomark _)) (is_one (is_ret (ie_tup (ia_cons ie_str (ia_cons (ie_v (i := 2) rfl (by first | exact Or.inl rfl | exact Or.inr (Or.inl rfl) | exact Or.inr (Or.inr rfl))) (ia_cons (ie_v (i := 4) rfl (by first | exact Or.inl rfl | exact Or.inr (Or.inl rfl) | exact Or.inr (Or.inr rfl))) (ia_cons (ie_sub_ B T.tab (ie_lst false (ia_cons (ie_sub (ie_call C_u_law_draw B (by first | decide | exact Nat.le_refl _) (by exact rfl) (ia_cons (ie_v (i := 0) rfl (by first | exact Or.inl rfl | exact Or.inr (Or.inl rfl) | exact Or.inr (Or.inr rfl))) (ia_cons ie_int ia_nil))) ie_int) (ia_cons ie_int (ia_cons (ie_neg ie_int) ia_nil)))) (ie_call C_u_law_draw B (by first | decide | exact Nat.le_refl _) (by exact rfl) (ia_cons (ie_v (i := 0) rfl (by first | exact Or.inl rfl | exact Or.inr (Or.inl rfl) | exact Or.inr (Or.inr rfl))) (ia_cons ie_int ia_nil)))) ia_nil))))))) is_nil) (is_cons (is_set (i := 7) s_u_law_deed.nd rfl (by first | exact Or.inl rfl | exact Or.inr rfl) (ie_lst false (ia_cons (ie_tup (ia_cons ie_str (ia_cons (ie_v (i := 2) rfl (by first | exact Or.inl rfl | exact Or.inr (Or.inl rfl) | exact Or.inr (Or.inr rfl))) (ia_cons (ie_v (i := 4) rfl (by first | exact Or.inl rfl | exact Or.inr (Or.inl rfl) | exact Or.inr (Or.inr rfl))) ia_nil)))) (ia_cons (ie_tup (ia_cons ie_str (ia_cons (ie_v (i := 2) rfl (by first | exact Or.inl rfl | exact Or.inr (Or.inl rfl) | exact Or.inr (Or.inr rfl))) (ia_cons (ie_v (i := 3) rfl (by first | exact Or.inl rfl | exact Or.inr (Or.inl rfl) | exact Or.inr (Or.inr rfl))) ia_nil)))) (ia_cons (ie_tup (ia_cons ie_str (ia_cons (ie_v (i := 2) rfl (by first | exact Or.inl rfl | exact Or.inr (Or.inl rfl) | exact Or.inr (Or.inr rfl))) ia_nil))) (ia_cons (ie_tup (ia_cons ie_str (ia_cons (ie_v (i := 6) rfl (by first | exact Or.inl rfl | exact Or.inr (Or.inl rfl) | exact Or.inr (Or.inr rfl))) (ia_cons (ie_v (i := 2) rfl (by first | exact Or.inl rfl | exact Or.inr (Or.inl rfl) | exact Or.inr (Or.inr rfl))) ia_nil)))) (ia_cons (ie_tup (ia_cons ie_str (ia_cons (ie_v (i := 2) rfl (by first | exact Or.inl rfl | exact Or.inr (Or.inl rfl) | exact Or.inr (Or.inr rfl))) (ia_cons (ie_v (i := 6) rfl (by first | exact Or.inl rfl | exact Or.inr (Or.inl rfl) | exact Or.inr (Or.inr rfl))) ia_nil)))) (ia_cons (ie_tup (ia_cons ie_str (ia_cons (ie_v (i := 2) rfl (by first | exact Or.inl rfl | exact Or.inr (Or.inl rfl) | exact Or.inr (Or.inr rfl))) ia_nil))) (ia_cons (ie_tup (ia_cons ie_str (ia_cons (ie_v (i := 2) rfl (by first | exact Or.inl rfl | exact Or.inr (Or.inl rfl) | exact Or.inr (Or.inr rfl))) ia_nil))) ia_nil))))))))) (is_one (is_ret (ie_sub_ B T.tab (ie_add false (ie_v (i := 7) rfl (by first | exact Or.inl rfl | exact Or.inr (Or.inl rfl) | exact Or.inr (Or.inr rfl))) (ie_lst false (ia_cons (ie_tup (ia_cons ie_str ia_nil)) ia_nil))) (ie_sub (ie_v (i := 5) rfl (by first | exact Or.inl rfl | exact Or.inr (Or.inl rfl) | exact Or.inr (Or.inr rfl))) ie_int)))))))))))
  exact z.pop
/-! ### _law_pair -/
abbrev st_u_law_pair : Stmt := top 37
theorem s_u_law_pair : FnScope ["well", "roots"] ["well"] (defScope st_u_law_pair) := ⟨rfl, rfl, rfl, by decide +kernel, rfl, by decide +kernel, by decide +kernel⟩
noncomputable def c_u_law_pair (G : Glb) : SM :=
  seq (asgS (bin (sbU G.tab) (lstE false (consA (cE (.int 2)) (consA (cE (.int 3)) (consA (cE (.int 6)) (nilA))))) (callF 2 (f_u_law_draw G) (consA (vE 0) (consA (cE (.int 3)) (nilA))))) (nmG 1)) (retS (tupE (consA (callF 2 (f_u_law_deed G) (consA (vE 0) (consA (vE 1) (nilA)))) (consA (callF 2 (f_u_law_deed G) (consA (vE 0) (consA (vE 1) (nilA)))) (nilA)))))
noncomputable def f_u_law_pair (G : Glb) : List U → IH → R U := popF (fnR 2 1 (c_u_law_pair G))
theorem g_u_law_pair {P : Program} {w : World} {K : PySem.W.Frag} {mg : Str → Option Value} {base : Heap} {G : Glb} (T : Txt P w K mg G) (C_u_law_deed : Cal P w K mg base 2 "_law_deed" 2 (f_u_law_deed G)) (C_u_law_draw : Cal P w K mg base 1 "_law_draw" 2 (f_u_law_draw G)) {f : Addr} {fd : FuncData} (F : L2.Fun K "_law_pair" "_law_pair" st_u_law_pair f fd) : FnG P w K mg base 3 f fd ["well"] (spI K 1 (f_u_law_pair G)) := by
  have z : FnG P w K mg base 3 f fd ["well"] (spI K 1 (fnR 2 1 (c_u_law_pair G))) := fn_n F s_u_law_pair rfl rfl (b := c_u_law_pair G) fun cd A out s H E B =>
    (is_cons (is_set (i := 1) s_u_law_pair.nd rfl (by first | exact Or.inl rfl | exact Or.inr rfl) (ie_sub_ B T.tab (ie_lst false (ia_cons ie_int (ia_cons ie_int (ia_cons ie_int ia_nil)))) (ie_call C_u_law_draw B (by first | decide | exact Nat.le_refl _) (by exact rfl) (ia_cons (ie_v (i := 0) rfl (by first | exact Or.inl rfl | exact Or.inr (Or.inl rfl) | exact Or.inr (Or.inr rfl))) (ia_cons ie_int ia_nil))))) (is_one (is_ret (ie_tup (ia_cons (ie_call C_u_law_deed B (by first | decide | exact Nat.le_refl _) (by exact rfl) (ia_cons (ie_v (i := 0) rfl (by first | exact Or.inl rfl | exact Or.inr (Or.inl rfl) | exact Or.inr (Or.inr rfl))) (ia_cons (ie_v (i := 1) rfl (by first | exact Or.inl rfl | exact Or.inr (Or.inl rfl) | exact Or.inr (Or.inr rfl))) ia_nil))) (ia_cons (ie_call C_u_law_deed B (by first | decide | exact Nat.le_refl _) (by exact rfl) (ia_cons (ie_v (i := 0) rfl (by first | exact Or.inl rfl | exact Or.inr (Or.inl rfl) | exact Or.inr (Or.inr rfl))) (ia_cons (ie_v (i := 1) rfl (by first | exact Or.inl rfl | exact Or.inr (Or.inl rfl) | exact Or.inr (Or.inr rfl))) ia_nil))) ia_nil))))))
  exact z.pop
/-! ### _law_names -/
abbrev st_u_law_names : Stmt := top 35
theorem s_u_law_names : FnScope ["deed", "word", "roots", "found", "changed", "r"] ["deed"] (defScope st_u_law_names) := ⟨rfl, rfl, rfl, by decide +kernel, rfl, by decide +kernel, by decide +kernel⟩
noncomputable def c_u_law_names (G : Glb) : SM :=
  seq (asgS (bin (sbU G.tab) (vE 0) (cE (.int 0))) (nmG 1)) (seq (asgS (dispE [(cE (.str "new"), cE (.int 1)), (cE (.str "copy"), cE (.int 2)), (cE (.str "clear"), cE (.int 1)), (cE (.str "write"), cE (.int 1)), (cE (.str "read"), cE (.int 1)), (cE (.str "same"), cE (.int 2)), (cE (.str "shape"), cE (.int 1)), (cE (.str "wish"), cE (.int 1)), (cE (.str "next"), cE (.int 1))]) (nmG 2)) (seq (asgS (compE false [5] (walkA (slE false (vE 0) (someP (cE (.int 1))) (someP (bin (addU false) (cE (.int 1)) (dget2 (vE 2) (vE 1) (cE (.int 0))))))) (nmG 5) (yesB) (tupE (consA (cE (.str "root")) (consA (vE 5) (nilA))))) (nmG 3)) (seq (ifS (asB (bin (eqU false) (vE 1) (cE (.str "link")))) (asgS (lstE false (consA (tupE (consA (cE (.str "root")) (consA (bin (sbU G.tab) (vE 0) (cE (.int 1))) (nilA)))) (consA (tupE (consA (cE (.str "root")) (consA (bin (sbU G.tab) (vE 0) (cE (.int 3))) (nilA)))) (nilA)))) (nmG 3)) (nxS)) (seq (ifS (asB (bin (eqU false) (vE 1) (cE (.str "follow")))) (asgS (lstE false (consA (tupE (consA (cE (.str "root")) (consA (bin (sbU G.tab) (vE 0) (cE (.int 1))) (nilA)))) (consA (tupE (consA (cE (.str "root")) (consA (bin (sbU G.tab) (vE 0) (cE (.int 2))) (nilA)))) (nilA)))) (nmG 3)) (nxS)) (seq (ifS (asB (bin (eqU false) (vE 1) (cE (.str "weak")))) (asgS (lstE false (consA (tupE (consA (cE (.str "root")) (consA (bin (sbU G.tab) (vE 0) (cE (.int 2))) (nilA)))) (consA (tupE (consA (cE (.str "weak")) (consA (bin (sbU G.tab) (vE 0) (cE (.int 1))) (nilA)))) (nilA)))) (nmG 3)) (nxS)) (seq (ifS (asB (bin (eqU false) (vE 1) (cE (.str "look")))) (asgS (lstE false (consA (tupE (consA (cE (.str "root")) (consA (bin (sbU G.tab) (vE 0) (cE (.int 1))) (nilA)))) (consA (tupE (consA (cE (.str "weak")) (consA (bin (sbU G.tab) (vE 0) (cE (.int 2))) (nilA)))) (nilA)))) (nmG 3)) (nxS)) (seq (asgS (ifE (asB (bin (eqU false) (vE 1) (cE (.str "weak")))) (lstE false (consA (tupE (consA (cE (.str "weak")) (consA (bin (sbU G.tab) (vE 0) (cE (.int 1))) (nilA)))) (nilA))) (lstE false (nilA))) (nmG 4)) (seq (ifS (asB (bin (hasU false) (vE 1) (tupE (consA (cE (.str "new")) (consA (cE (.str "copy")) (consA (cE (.str "clear")) (consA (cE (.str "follow")) (consA (cE (.str "look")) (consA (cE (.str "next")) (nilA)))))))))) (asgS (lstE false (consA (tupE (consA (cE (.str "root")) (consA (bin (sbU G.tab) (vE 0) (cE (.int 1))) (nilA)))) (nilA))) (nmG 4)) (nxS)) (retS (tupE (consA (vE 3) (consA (vE 4) (nilA)))))))))))))
noncomputable def f_u_law_names (G : Glb) : List U → IH → R U := popF (fnR 6 1 (c_u_law_names G))
theorem g_u_law_names {P : Program} {w : World} {K : PySem.W.Frag} {mg : Str → Option Value} {base : Heap} {G : Glb} (T : Txt P w K mg G) {f : Addr} {fd : FuncData} (F : L2.Fun K "_law_names" "_law_names" st_u_law_names f fd) : FnG P w K mg base 1 f fd ["deed"] (spI K 1 (f_u_law_names G)) := by
  have z : FnG P w K mg base 1 f fd ["deed"] (spI K 1 (fnR 6 1 (c_u_law_names G))) := fn_n F s_u_law_names rfl rfl (b := c_u_law_names G) fun cd A out s H E B =>
    (is_cons (is_set (i := 1) s_u_law_names.nd rfl (by first | exact Or.inl rfl | exact Or.inr rfl) (ie_sub_ B T.tab (ie_v (i := 0) rfl (by first | exact Or.inl rfl | exact Or.inr (Or.inl rfl) | exact Or.inr (Or.inr rfl))) ie_int)) (is_cons (is_set (i := 2) s_u_law_names.nd rfl (by first | exact Or.inl rfl | exact Or.inr rfl) (ie_disp (prs := [(cE (.str "new"), cE (.int 1)), (cE (.str "copy"), cE (.int 2)), (cE (.str "clear"), cE (.int 1)), (cE (.str "write"), cE (.int 1)), (cE (.str "read"), cE (.int 1)), (cE (.str "same"), cE (.int 2)), (cE (.str "shape"), cE (.int 1)), (cE (.str "wish"), cE (.int 1)), (cE (.str "next"), cE (.int 1))]) (ipp_cons ie_str ie_int (ipp_cons ie_str ie_int (ipp_cons ie_str ie_int (ipp_cons ie_str ie_int (ipp_cons ie_str ie_int (ipp_cons ie_str ie_int (ipp_cons ie_str ie_int (ipp_cons ie_str ie_int (ipp_cons ie_str ie_int ipp_nil))))))))))) (is_cons (is_setComp false (i := 3) B.calm s_u_law_names.nd rfl rfl (sw_true rfl rfl (by decide) (by decide +kernel)) (own := [("r", 5)]) (ii_any (ie_sl false (ie_v (i := 0) rfl (by first | exact Or.inl rfl | exact Or.inr (Or.inl rfl) | exact Or.inr (Or.inr rfl))) (io_some ie_int) (io_some (ie_add false ie_int (ie_dget2 B (ie_v (i := 2) rfl (by first | exact Or.inl rfl | exact Or.inr (Or.inl rfl) | exact Or.inr (Or.inr rfl))) (ie_v (i := 1) rfl (by first | exact Or.inl rfl | exact Or.inr (Or.inl rfl) | exact Or.inr (Or.inr rfl))) ie_int ⟨rfl, rfl, rfl, rfl⟩))))) (blkOk_by (N := ["deed", "word", "roots", "found", "changed", "r"]) (sc := defScope st_u_law_names) (by decide +kernel)) (by decide) (fun s0 h0 c0 l0 q0 => (ig_name (i := 5) s_u_law_names.nd rfl (by first | exact Or.inl rfl | exact Or.inr rfl))) (fun s0 h0 c0 l0 q0 => its_nil) (fun s0 h0 c0 l0 q0 => (ie_tup (ia_cons ie_str (ia_cons (ie_v (i := 5) rfl (by first | exact Or.inl rfl | exact Or.inr (Or.inl rfl) | exact Or.inr (Or.inr rfl))) ia_nil))))) (is_cons (is_if (it_cmp (op_eqD B.u64) eqU_noe eqU_ok (ie_v (i := 1) rfl (by first | exact Or.inl rfl | exact Or.inr (Or.inl rfl) | exact Or.inr (Or.inr rfl))) ie_str (nomark _)) (is_one (is_set (i := 3) s_u_law_names.nd rfl (by first | exact Or.inl rfl | exact Or.inr rfl) (ie_lst false (ia_cons (ie_tup (ia_cons ie_str (ia_cons (ie_sub_ B T.tab (ie_v (i := 0) rfl (by first | exact Or.inl rfl | exact Or.inr (Or.inl rfl) | exact Or.inr (Or.inr rfl))) ie_int) ia_nil))) (ia_cons (ie_tup (ia_cons ie_str (ia_cons (ie_sub_ B T.tab (ie_v (i := 0) rfl (by first | exact Or.inl rfl | exact Or.inr (Or.inl rfl) | exact Or.inr (Or.inr rfl))) ie_int) ia_nil))) ia_nil))))) is_nil) (is_cons (is_if (it_cmp (op_eqD B.u64) eqU_noe eqU_ok (ie_v (i := 1) rfl (by first | exact Or.inl rfl | exact Or.inr (Or.inl rfl) | exact Or.inr (Or.inr rfl))) ie_str (nomark _)) (is_one (is_set (i := 3) s_u_law_names.nd rfl (by first | exact Or.inl rfl | exact Or.inr rfl) (ie_lst false (ia_cons (ie_tup (ia_cons ie_str (ia_cons (ie_sub_ B T.tab (ie_v (i := 0) rfl (by first | exact Or.inl rfl | exact Or.inr (Or.inl rfl) | exact Or.inr (Or.inr rfl))) ie_int) ia_nil))) (ia_cons (ie_tup (ia_cons ie_str (ia_cons (ie_sub_ B T.tab (ie_v (i := 0) rfl (by first | exact Or.inl rfl | exact Or.inr (Or.inl rfl) | exact Or.inr (Or.inr rfl))) ie_int) ia_nil))) ia_nil))))) is_nil) (is_cons (is_if (it_cmp (op_eqD B.u64) eqU_noe eqU_ok (ie_v (i := 1) rfl (by first | exact Or.inl rfl | exact Or.inr (Or.inl rfl) | exact Or.inr (Or.inr rfl))) ie_str (nomark _)) (is_one (is_set (i := 3) s_u_law_names.nd rfl (by first | exact Or.inl rfl | exact Or.inr rfl) (ie_lst false (ia_cons (ie_tup (ia_cons ie_str (ia_cons (ie_sub_ B T.tab (ie_v (i := 0) rfl (by first | exact Or.inl rfl | exact Or.inr (Or.inl rfl) | exact Or.inr (Or.inr rfl))) ie_int) ia_nil))) (ia_cons (ie_tup (ia_cons ie_str (ia_cons (ie_sub_ B T.tab (ie_v (i := 0) rfl (by first | exact Or.inl rfl | exact Or.inr (Or.inl rfl) | exact Or.inr (Or.inr rfl))) ie_int) ia_nil))) ia_nil))))) is_nil) (is_cons (is_if (it_cmp (op_eqD B.u64) eqU_noe eqU_ok (ie_v (i := 1) rfl (by first | exact Or.inl rfl | exact Or.inr (Or.inl rfl) | exact Or.inr (Or.inr rfl))) ie_str (nomark _)) (is_one (is_set (i := 3) s_u_law_names.nd rfl (by first | exact Or.inl rfl | exact Or.inr rfl) (ie_lst false (ia_cons (ie_tup (ia_cons ie_str (ia_cons (ie_sub_ B T.tab (ie_v (i := 0) rfl (by first | exact Or.inl rfl | exact Or.inr (Or.inl rfl) | exact Or.inr (Or.inr rfl))) ie_int) ia_nil))) (ia_cons (ie_tup (ia_cons ie_str (ia_cons (ie_sub_ B T.tab (ie_v (i := 0) rfl (by first | exact Or.inl rfl | exact Or.inr (Or.inl rfl) | exact Or.inr (Or.inr rfl))) ie_int) ia_nil))) ia_nil))))) is_nil) (is_cons (is_set (i := 4) s_u_law_names.nd rfl (by first | exact Or.inl rfl | exact Or.inr rfl) (ie_if (it_cmp (op_eqD B.u64) eqU_noe eqU_ok (ie_v (i := 1) rfl (by first | exact Or.inl rfl | exact Or.inr (Or.inl rfl) | exact Or.inr (Or.inr rfl))) ie_str (nomark _)) (ie_lst false (ia_cons (ie_tup (ia_cons ie_str (ia_cons (ie_sub_ B T.tab (ie_v (i := 0) rfl (by first | exact Or.inl rfl | exact Or.inr (Or.inl rfl) | exact Or.inr (Or.inr rfl))) ie_int) ia_nil))) ia_nil)) (ie_lst false ia_nil))) (is_cons (is_if (it_cmp (op_has B.u65) hasU_noe hasU_ok (ie_v (i := 1) rfl (by first | exact Or.inl rfl | exact Or.inr (Or.inl rfl) | exact Or.inr (Or.inr rfl))) (ie_tup (ia_cons ie_str (ia_cons ie_str (ia_cons ie_str (ia_cons ie_str (ia_cons ie_str (ia_cons ie_str ia_nil))))))) (by with_unfolding_all rfl)) (is_one (is_set (i := 4) s_u_law_names.nd rfl (by first | exact Or.inl rfl | exact Or.inr rfl) (ie_lst false (ia_cons (ie_tup (ia_cons ie_str (ia_cons (ie_sub_ B T.tab (ie_v (i := 0) rfl (by first | exact Or.inl rfl | exact Or.inr (Or.inl rfl) | exact Or.inr (Or.inr rfl))) ie_int) ia_nil))) ia_nil)))) is_nil) (is_one (is_ret (ie_tup (ia_cons (ie_v (i := 3) rfl (by first | exact Or.inl rfl | exact Or.inr (Or.inl rfl) | exact Or.inr (Or.inr rfl))) (ia_cons (ie_v (i := 4) rfl (by first | exact Or.inl rfl | exact Or.inr (Or.inl rfl) | exact Or.inr (Or.inr rfl))) ia_nil))))))))))))))
  exact z.pop
/-! ### _law_clash -/
abbrev st_u_law_clash : Stmt := top 36
theorem s_u_law_clash : FnScope ["one", "other", "words", "mine", "yours", "names", "changes", "others", "changed", "own"] ["one", "other"] (defScope st_u_law_clash) := ⟨rfl, rfl, rfl, by decide +kernel, rfl, by decide +kernel, by decide +kernel⟩
noncomputable def c_u_law_clash (G : Glb) : SM :=
  seq (asgS (tupE (consA (bin (sbU G.tab) (vE 0) (cE (.int 0))) (consA (bin (sbU G.tab) (vE 1) (cE (.int 0))) (nilA)))) (nmG 2)) (seq (ifS (orB (asB (bin (hasU false) (cE (.str "gather")) (vE 2))) (andB (asB (bin (hasU false) (bin (sbU G.tab) (vE 2) (cE (.int 0))) (tupE (consA (cE (.str "wish")) (consA (cE (.str "next")) (nilA)))))) (asB (bin (hasU false) (bin (sbU G.tab) (vE 2) (cE (.int 1))) (tupE (consA (cE (.str "wish")) (consA (cE (.str "next")) (nilA)))))))) (retS (cE (.bl true))) (nxS)) (seq (forS (walkA (tupE (consA (vE 2) (consA (un (backU false) (vE 2)) (nilA))))) (seqG 2 (consG (nmG 3) (consG (nmG 4) (nilG)))) (ifS (orB (andB (asB (bin (eqU false) (vE 3) (cE (.str "link")))) (asB (bin (hasU false) (vE 4) (tupE (consA (cE (.str "link")) (consA (cE (.str "follow")) (nilA))))))) (andB (asB (bin (eqU false) (vE 3) (cE (.str "write")))) (asB (bin (hasU false) (vE 4) (tupE (consA (cE (.str "write")) (consA (cE (.str "read")) (nilA)))))))) (retS (cE (.bl true))) (nxS))) (seq (asgS (tupE (consA (callF 1 (f_u_law_names G) (consA (vE 0) (nilA))) (consA (callF 1 (f_u_law_names G) (consA (vE 1) (nilA))) (nilA)))) (seqG 2 (consG (seqG 2 (consG (nmG 5) (consG (nmG 6) (nilG)))) (consG (seqG 2 (consG (nmG 7) (consG (nmG 8) (nilG)))) (nilG))))) (retS (orE (bin (eqU true) (compE false [9] (walkA (vE 6)) (nmG 9) (asB (bin (hasU false) (vE 9) (vE 7))) (vE 9)) (lstE false (nilA))) (bin (eqU true) (compE false [9] (walkA (vE 8)) (nmG 9) (asB (bin (hasU false) (vE 9) (vE 5))) (vE 9)) (lstE false (nilA))))))))
noncomputable def f_u_law_clash (G : Glb) : List U → IH → R U := popF (fnR 10 2 (c_u_law_clash G))
theorem g_u_law_clash {P : Program} {w : World} {K : PySem.W.Frag} {mg : Str → Option Value} {base : Heap} {G : Glb} (T : Txt P w K mg G) (C_u_law_names : Cal P w K mg base 1 "_law_names" 1 (f_u_law_names G)) {f : Addr} {fd : FuncData} (F : L2.Fun K "_law_clash" "_law_clash" st_u_law_clash f fd) : FnG P w K mg base 2 f fd ["one", "other"] (spI K 2 (f_u_law_clash G)) := by
  have z : FnG P w K mg base 2 f fd ["one", "other"] (spI K 2 (fnR 10 2 (c_u_law_clash G))) := fn_n F s_u_law_clash rfl rfl (b := c_u_law_clash G) fun cd A out s H E B =>
    (is_cons (is_set (i := 2) s_u_law_clash.nd rfl (by first | exact Or.inl rfl | exact Or.inr rfl) (ie_tup (ia_cons (ie_sub_ B T.tab (ie_v (i := 0) rfl (by first | exact Or.inl rfl | exact Or.inr (Or.inl rfl) | exact Or.inr (Or.inr rfl))) ie_int) (ia_cons (ie_sub_ B T.tab (ie_v (i := 1) rfl (by first | exact Or.inl rfl | exact Or.inr (Or.inl rfl) | exact Or.inr (Or.inr rfl))) ie_int) ia_nil)))) (is_cons (is_if (PW.pt (iw_or (it_cmp (op_has B.u65) hasU_noe hasU_ok ie_str (ie_v (i := 2) rfl (by first | exact Or.inl rfl | exact Or.inr (Or.inl rfl) | exact Or.inr (Or.inr rfl))) (by with_unfolding_all rfl)) (iw_or1 (PW.pt (iw_and (it_cmp (op_has B.u65) hasU_noe hasU_ok (ie_sub_ B T.tab (ie_v (i := 2) rfl (by first | exact Or.inl rfl | exact Or.inr (Or.inl rfl) | exact Or.inr (Or.inr rfl))) ie_int) (ie_tup (ia_cons ie_str (ia_cons ie_str ia_nil))) (by with_unfolding_all rfl)) (iw_and1 (it_cmp (op_has B.u65) hasU_noe hasU_ok (ie_sub_ B T.tab (ie_v (i := 2) rfl (by first | exact Or.inl rfl | exact Or.inr (Or.inl rfl) | exact Or.inr (Or.inr rfl))) ie_int) (ie_tup (ia_cons ie_str (ia_cons ie_str ia_nil))) (by with_unfolding_all rfl)))))))) (is_one (is_ret ie_bl)) is_nil) (is_cons (is_for B.own B.calm (ii_any (ie_tup (ia_cons (ie_v (i := 2) rfl (by first | exact Or.inl rfl | exact Or.inr (Or.inl rfl) | exact Or.inr (Or.inr rfl))) (ia_cons (ie_back false (ie_v (i := 2) rfl (by first | exact Or.inl rfl | exact Or.inr (Or.inl rfl) | exact Or.inr (Or.inr rfl)))) ia_nil)))) (ig_seq B.calm (igs_cons (ig_name (i := 3) s_u_law_clash.nd rfl (by first | exact Or.inl rfl | exact Or.inr rfl)) (igs_cons (ig_name (i := 4) s_u_law_clash.nd rfl (by first | exact Or.inl rfl | exact Or.inr rfl)) igs_nil))) (is_one (is_if (PW.pt (iw_or (PW.pt (iw_and (it_cmp (op_eqD B.u64) eqU_noe eqU_ok (ie_v (i := 3) rfl (by first | exact Or.inl rfl | exact Or.inr (Or.inl rfl) | exact Or.inr (Or.inr rfl))) ie_str (nomark _)) (iw_and1 (it_cmp (op_has B.u65) hasU_noe hasU_ok (ie_v (i := 4) rfl (by first | exact Or.inl rfl | exact Or.inr (Or.inl rfl) | exact Or.inr (Or.inr rfl))) (ie_tup (ia_cons ie_str (ia_cons ie_str ia_nil))) (by with_unfolding_all rfl))))) (iw_or1 (PW.pt (iw_and (it_cmp (op_eqD B.u64) eqU_noe eqU_ok (ie_v (i := 3) rfl (by first | exact Or.inl rfl | exact Or.inr (Or.inl rfl) | exact Or.inr (Or.inr rfl))) ie_str (nomark _)) (iw_and1 (it_cmp (op_has B.u65) hasU_noe hasU_ok (ie_v (i := 4) rfl (by first | exact Or.inl rfl | exact Or.inr (Or.inl rfl) | exact Or.inr (Or.inr rfl))) (ie_tup (ia_cons ie_str (ia_cons ie_str ia_nil))) (by with_unfolding_all rfl)))))))) (is_one (is_ret ie_bl)) is_nil))) (is_cons (is_asg (ie_tup (ia_cons (ie_call C_u_law_names B (by first | decide | exact Nat.le_refl _) (by exact rfl) (ia_cons (ie_v (i := 0) rfl (by first | exact Or.inl rfl | exact Or.inr (Or.inl rfl) | exact Or.inr (Or.inr rfl))) ia_nil)) (ia_cons (ie_call C_u_law_names B (by first | decide | exact Nat.le_refl _) (by exact rfl) (ia_cons (ie_v (i := 1) rfl (by first | exact Or.inl rfl | exact Or.inr (Or.inl rfl) | exact Or.inr (Or.inr rfl))) ia_nil)) ia_nil))) (ig_seq B.calm (igs_cons (ig_seq B.calm (igs_cons (ig_name (i := 5) s_u_law_clash.nd rfl (by first | exact Or.inl rfl | exact Or.inr rfl)) (igs_cons (ig_name (i := 6) s_u_law_clash.nd rfl (by first | exact Or.inl rfl | exact Or.inr rfl)) igs_nil))) (igs_cons (ig_seq B.calm (igs_cons (ig_name (i := 7) s_u_law_clash.nd rfl (by first | exact Or.inl rfl | exact Or.inr rfl)) (igs_cons (ig_name (i := 8) s_u_law_clash.nd rfl (by first | exact Or.inl rfl | exact Or.inr rfl)) igs_nil))) igs_nil)))) (is_one (is_ret (ie_or (ie_cmp (op_neD B.u64) eqU_noe neU_ok (ie_comp false B.calm s_u_law_clash.nd (own := [("own", 9)]) (ii_any (ie_v (i := 6) rfl (by first | exact Or.inl rfl | exact Or.inr (Or.inl rfl) | exact Or.inr (Or.inr rfl)))) (blkOk_by (N := ["one", "other", "words", "mine", "yours", "names", "changes", "others", "changed", "own"]) (sc := defScope st_u_law_clash) (by decide +kernel)) (by decide) (fun s0 h0 c0 l0 q0 => (ig_name (i := 9) s_u_law_clash.nd rfl (by first | exact Or.inl rfl | exact Or.inr rfl))) (fun s0 h0 c0 l0 q0 => (its_one (it_cmp (op_has (Bd.blk B s0 h0 _ _ q0).u65) hasU_noe hasU_ok (ie_v (i := 9) rfl (by first | exact Or.inl rfl | exact Or.inr (Or.inl rfl) | exact Or.inr (Or.inr rfl))) (ie_v (i := 7) rfl (by first | exact Or.inl rfl | exact Or.inr (Or.inl rfl) | exact Or.inr (Or.inr rfl))) (by with_unfolding_all rfl)))) (fun s0 h0 c0 l0 q0 => (ie_v (i := 9) rfl (by first | exact Or.inl rfl | exact Or.inr (Or.inl rfl) | exact Or.inr (Or.inr rfl))))) (ie_lst false ia_nil) (nomark _)) (ie_one (ie_cmp (op_neD B.u64) eqU_noe neU_ok (ie_comp false B.calm s_u_law_clash.nd (own := [("own", 9)]) (ii_any (ie_v (i := 8) rfl (by first | exact Or.inl rfl | exact Or.inr (Or.inl rfl) | exact Or.inr (Or.inr rfl)))) (blkOk_by (N := ["one", "other", "words", "mine", "yours", "names", "changes", "others", "changed", "own"]) (sc := defScope st_u_law_clash) (by decide +kernel)) (by decide) (fun s0 h0 c0 l0 q0 => (ig_name (i := 9) s_u_law_clash.nd rfl (by first | exact Or.inl rfl | exact Or.inr rfl))) (fun s0 h0 c0 l0 q0 => (its_one (it_cmp (op_has (Bd.blk B s0 h0 _ _ q0).u65) hasU_noe hasU_ok (ie_v (i := 9) rfl (by first | exact Or.inl rfl | exact Or.inr (Or.inl rfl) | exact Or.inr (Or.inr rfl))) (ie_v (i := 5) rfl (by first | exact Or.inl rfl | exact Or.inr (Or.inl rfl) | exact Or.inr (Or.inr rfl))) (by with_unfolding_all rfl)))) (fun s0 h0 c0 l0 q0 => (ie_v (i := 9) rfl (by first | exact Or.inl rfl | exact Or.inr (Or.inl rfl) | exact Or.inr (Or.inr rfl))))) (ie_lst false ia_nil) (nomark _))))))))))
  exact z.pop
/-! ### named_by -/
abbrev st_named_by : Stmt := top 18
theorem s_named_by : FnScope ["deed", "found", "letter", "part"] ["deed"] (defScope st_named_by) := ⟨rfl, rfl, rfl, by decide +kernel, rfl, by decide +kernel, by decide +kernel⟩
noncomputable def c_named_by (G : Glb) : SM :=
  seq (asgS (compE true [2, 3] (zipU (consA (bin (sbU G.tab) (cE (.adr G.k_SHAPES)) (bin (sbU G.tab) (vE 0) (cE (.int 0)))) (consA (slE false (vE 0) (someP (cE (.int 1))) (noP)) (nilA)))) (seqG 2 (consG (nmG 2) (consG (nmG 3) (nilG)))) (asB (bin (eqU false) (vE 2) (cE (.str "r")))) (tupE (consA (cE (.str "root")) (consA (vE 3) (nilA))))) (nmG 1)) (seq (ifS (asB (bin (eqU false) (bin (sbU G.tab) (vE 0) (cE (.int 0))) (cE (.str "weak")))) (exprS (bmE appU (vE 1) (consA (tupE (consA (cE (.str "weak")) (consA (bin (sbU G.tab) (vE 0) (cE (.int 1))) (nilA)))) (nilA)))) (nxS)) (seq (ifS (asB (bin (eqU false) (bin (sbU G.tab) (vE 0) (cE (.int 0))) (cE (.str "look")))) (exprS (bmE appU (vE 1) (consA (tupE (consA (cE (.str "weak")) (consA (bin (sbU G.tab) (vE 0) (cE (.int 2))) (nilA)))) (nilA)))) (nxS)) (retS (vE 1))))
noncomputable def f_named_by (G : Glb) : List U → IH → R U := popF (fnR 4 1 (c_named_by G))
theorem g_named_by {P : Program} {w : World} {K : PySem.W.Frag} {mg : Str → Option Value} {base : Heap} {G : Glb} (T : Txt P w K mg G) {f : Addr} {fd : FuncData} (F : L2.Fun K "named_by" "named_by" st_named_by f fd) : FnG P w K mg base 1 f fd ["deed"] (spI K 1 (f_named_by G)) := by
  have z : FnG P w K mg base 1 f fd ["deed"] (spI K 1 (fnR 4 1 (c_named_by G))) := fn_n F s_named_by rfl rfl (b := c_named_by G) fun cd A out s H E B =>
    (is_cons (is_setComp true (i := 1) B.calm s_named_by.nd rfl rfl (sw_true rfl rfl (by decide) (by decide +kernel)) (own := [("letter", 2), ("part", 3)]) (ii_zip (by exact rfl) T.b_zip (ia_cons (ie_sub_ B T.tab (ie_gl T.k_SHAPES (by exact rfl)) (ie_sub_ B T.tab (ie_v (i := 0) rfl (by first | exact Or.inl rfl | exact Or.inr (Or.inl rfl) | exact Or.inr (Or.inr rfl))) ie_int)) (ia_cons (ie_sl false (ie_v (i := 0) rfl (by first | exact Or.inl rfl | exact Or.inr (Or.inl rfl) | exact Or.inr (Or.inr rfl))) (io_some ie_int) io_none) ia_nil))) (blkOk_by (N := ["deed", "found", "letter", "part"]) (sc := defScope st_named_by) (by decide +kernel)) (by decide) (fun s0 h0 c0 l0 q0 => (ig_seq (Bd.blk B s0 h0 _ _ q0).calm (igs_cons (ig_name (i := 2) s_named_by.nd rfl (by first | exact Or.inl rfl | exact Or.inr rfl)) (igs_cons (ig_name (i := 3) s_named_by.nd rfl (by first | exact Or.inl rfl | exact Or.inr rfl)) igs_nil)))) (fun s0 h0 c0 l0 q0 => (its_one (it_cmp (op_eqD (Bd.blk B s0 h0 _ _ q0).u64) eqU_noe eqU_ok (ie_v (i := 2) rfl (by first | exact Or.inl rfl | exact Or.inr (Or.inl rfl) | exact Or.inr (Or.inr rfl))) ie_str (nomark _)))) (fun s0 h0 c0 l0 q0 => (ie_tup (ia_cons ie_str (ia_cons (ie_v (i := 3) rfl (by first | exact Or.inl rfl | exact Or.inr (Or.inl rfl) | exact Or.inr (Or.inr rfl))) ia_nil))))) (is_cons (is_if (it_cmp (op_eqD B.u64) eqU_noe eqU_ok (ie_sub_ B T.tab (ie_v (i := 0) rfl (by first | exact Or.inl rfl | exact Or.inr (Or.inl rfl) | exact Or.inr (Or.inr rfl))) ie_int) ie_str (nomark _)) (is_one (is_expr (ie_append (ie_v (i := 1) rfl (by first | exact Or.inl rfl | exact Or.inr (Or.inl rfl) | exact Or.inr (Or.inr rfl))) (ia_cons (ie_tup (ia_cons ie_str (ia_cons (ie_sub_ B T.tab (ie_v (i := 0) rfl (by first | exact Or.inl rfl | exact Or.inr (Or.inl rfl) | exact Or.inr (Or.inr rfl))) ie_int) ia_nil))) ia_nil)))) is_nil) (is_cons (is_if (it_cmp (op_eqD B.u64) eqU_noe eqU_ok (ie_sub_ B T.tab (ie_v (i := 0) rfl (by first | exact Or.inl rfl | exact Or.inr (Or.inl rfl) | exact Or.inr (Or.inr rfl))) ie_int) ie_str (nomark _)) (is_one (is_expr (ie_append (ie_v (i := 1) rfl (by first | exact Or.inl rfl | exact Or.inr (Or.inl rfl) | exact Or.inr (Or.inr rfl))) (ia_cons (ie_tup (ia_cons ie_str (ia_cons (ie_sub_ B T.tab (ie_v (i := 0) rfl (by first | exact Or.inl rfl | exact Or.inr (Or.inl rfl) | exact Or.inr (Or.inr rfl))) ie_int) ia_nil))) ia_nil)))) is_nil) (is_one (is_ret (ie_v (i := 1) rfl (by first | exact Or.inl rfl | exact Or.inr (Or.inl rfl) | exact Or.inr (Or.inr rfl))))))))
  exact z.pop
/-! ### changed_by -/
abbrev st_changed_by : Stmt := top 19
theorem s_changed_by : FnScope ["deed"] ["deed"] (defScope st_changed_by) := ⟨rfl, rfl, rfl, by decide +kernel, rfl, by decide +kernel, by decide +kernel⟩
noncomputable def c_changed_by (G : Glb) : SM :=
  seq (ifS (asB (bin (eqU false) (bin (sbU G.tab) (vE 0) (cE (.int 0))) (cE (.str "weak")))) (retS (lstE false (consA (tupE (consA (cE (.str "weak")) (consA (bin (sbU G.tab) (vE 0) (cE (.int 1))) (nilA)))) (nilA)))) (nxS)) (retS (ifE (asB (bin (hasU false) (bin (sbU G.tab) (vE 0) (cE (.int 0))) (cE (.tup [(.str "new"), (.str "copy"), (.str "clear"), (.str "follow"), (.str "look"), (.str "next")])))) (lstE false (consA (tupE (consA (cE (.str "root")) (consA (bin (sbU G.tab) (vE 0) (cE (.int 1))) (nilA)))) (nilA))) (lstE false (nilA))))
noncomputable def f_changed_by (G : Glb) : List U → IH → R U := popF (fnR 1 1 (c_changed_by G))
theorem g_changed_by {P : Program} {w : World} {K : PySem.W.Frag} {mg : Str → Option Value} {base : Heap} {G : Glb} (T : Txt P w K mg G) {f : Addr} {fd : FuncData} (F : L2.Fun K "changed_by" "changed_by" st_changed_by f fd) : FnG P w K mg base 1 f fd ["deed"] (spI K 1 (f_changed_by G)) := by
  have z : FnG P w K mg base 1 f fd ["deed"] (spI K 1 (fnR 1 1 (c_changed_by G))) := fn_n F s_changed_by rfl rfl (b := c_changed_by G) fun cd A out s H E B =>
    (is_cons (is_if (it_cmp (op_eqD B.u64) eqU_noe eqU_ok (ie_sub_ B T.tab (ie_v (i := 0) rfl (by first | exact Or.inl rfl | exact Or.inr (Or.inl rfl) | exact Or.inr (Or.inr rfl))) ie_int) ie_str (nomark _)) (is_one (is_ret (ie_lst false (ia_cons (ie_tup (ia_cons ie_str (ia_cons (ie_sub_ B T.tab (ie_v (i := 0) rfl (by first | exact Or.inl rfl | exact Or.inr (Or.inl rfl) | exact Or.inr (Or.inr rfl))) ie_int) ia_nil))) ia_nil)))) is_nil) (is_one (is_ret (ie_if (it_cmp (op_has B.u65) hasU_noe hasU_ok (ie_sub_ B T.tab (ie_v (i := 0) rfl (by first | exact Or.inl rfl | exact Or.inr (Or.inl rfl) | exact Or.inr (Or.inr rfl))) ie_int) (ie_gl T.k_CHANGING (by exact rfl)) (by with_unfolding_all rfl)) (ie_lst false (ia_cons (ie_tup (ia_cons ie_str (ia_cons (ie_sub_ B T.tab (ie_v (i := 0) rfl (by first | exact Or.inl rfl | exact Or.inr (Or.inl rfl) | exact Or.inr (Or.inr rfl))) ie_int) ia_nil))) ia_nil)) (ie_lst false ia_nil)))))
  exact z.pop
/-! ### do_clash -/
abbrev st_do_clash : Stmt := top 20
theorem s_do_clash : FnScope ["one", "other", "words", "mine", "yours", "word", "item"] ["one", "other"] (defScope st_do_clash) := ⟨rfl, rfl, rfl, by decide +kernel, rfl, by decide +kernel, by decide +kernel⟩
noncomputable def c_do_clash (G : Glb) : SM :=
  seq (asgS (tupE (consA (bin (sbU G.tab) (vE 0) (cE (.int 0))) (consA (bin (sbU G.tab) (vE 1) (cE (.int 0))) (nilA)))) (nmG 2)) (seq (ifS (orB (asB (bin (hasU false) (cE (.str "gather")) (vE 2))) (tst (callA (on1 allU) (consA (compE false [5] (walkA (vE 2)) (nmG 5) (yesB) (bin (hasU false) (vE 5) (cE (.tup [(.str "wish"), (.str "next")])))) (nilA))))) (retS (cE (.bl true))) (nxS)) (seq (ifS (orB (asB (bin (hasU false) (vE 2) (cE (.tup [(.tup [(.str "link"), (.str "link")]), (.tup [(.str "link"), (.str "follow")]), (.tup [(.str "write"), (.str "write")]), (.tup [(.str "write"), (.str "read")])])))) (asB (bin (hasU false) (un (backU false) (vE 2)) (cE (.tup [(.tup [(.str "link"), (.str "link")]), (.tup [(.str "link"), (.str "follow")]), (.tup [(.str "write"), (.str "write")]), (.tup [(.str "write"), (.str "read")])]))))) (retS (cE (.bl true))) (nxS)) (seq (asgS (tupE (consA (callF 1 (f_named_by G) (consA (vE 0) (nilA))) (consA (callF 1 (f_named_by G) (consA (vE 1) (nilA))) (nilA)))) (seqG 2 (consG (nmG 3) (consG (nmG 4) (nilG))))) (retS (orE (callA (on1 anyU) (consA (compE false [6] (walkA (callF 1 (f_changed_by G) (consA (vE 0) (nilA)))) (nmG 6) (yesB) (bin (hasU false) (vE 6) (vE 4))) (nilA))) (callA (on1 anyU) (consA (compE false [6] (walkA (callF 1 (f_changed_by G) (consA (vE 1) (nilA)))) (nmG 6) (yesB) (bin (hasU false) (vE 6) (vE 3))) (nilA))))))))
noncomputable def f_do_clash (G : Glb) : List U → IH → R U := popF (fnR 7 2 (c_do_clash G))
theorem g_do_clash {P : Program} {w : World} {K : PySem.W.Frag} {mg : Str → Option Value} {base : Heap} {G : Glb} (T : Txt P w K mg G) (C_changed_by : Cal P w K mg base 1 "changed_by" 1 (f_changed_by G)) (C_named_by : Cal P w K mg base 1 "named_by" 1 (f_named_by G)) {f : Addr} {fd : FuncData} (F : L2.Fun K "do_clash" "do_clash" st_do_clash f fd) : FnG P w K mg base 2 f fd ["one", "other"] (spI K 2 (f_do_clash G)) := by
  have z : FnG P w K mg base 2 f fd ["one", "other"] (spI K 2 (fnR 7 2 (c_do_clash G))) := fn_n F s_do_clash rfl rfl (b := c_do_clash G) fun cd A out s H E B =>
    (is_cons (is_set (i := 2) s_do_clash.nd rfl (by first | exact Or.inl rfl | exact Or.inr rfl) (ie_tup (ia_cons (ie_sub_ B T.tab (ie_v (i := 0) rfl (by first | exact Or.inl rfl | exact Or.inr (Or.inl rfl) | exact Or.inr (Or.inr rfl))) ie_int) (ia_cons (ie_sub_ B T.tab (ie_v (i := 1) rfl (by first | exact Or.inl rfl | exact Or.inr (Or.inl rfl) | exact Or.inr (Or.inr rfl))) ie_int) ia_nil)))) (is_cons (is_if (PW.pt (iw_or (it_cmp (op_has B.u65) hasU_noe hasU_ok ie_str (ie_v (i := 2) rfl (by first | exact Or.inl rfl | exact Or.inr (Or.inl rfl) | exact Or.inr (Or.inr rfl))) (by with_unfolding_all rfl)) (iw_or1 (it_tru (ie_all B.calm (by exact rfl) T.b_all (ia_cons (ie_comp false B.calm s_do_clash.nd (own := [("word", 5)]) (ii_any (ie_v (i := 2) rfl (by first | exact Or.inl rfl | exact Or.inr (Or.inl rfl) | exact Or.inr (Or.inr rfl)))) (blkOk_by (N := ["one", "other", "words", "mine", "yours", "word", "item"]) (sc := defScope st_do_clash) (by decide +kernel)) (by decide) (fun s0 h0 c0 l0 q0 => (ig_name (i := 5) s_do_clash.nd rfl (by first | exact Or.inl rfl | exact Or.inr rfl))) (fun s0 h0 c0 l0 q0 => its_nil) (fun s0 h0 c0 l0 q0 => (ie_cmp (op_has (Bd.blk B s0 h0 _ _ q0).u65) hasU_noe hasU_ok (ie_v (i := 5) rfl (by first | exact Or.inl rfl | exact Or.inr (Or.inl rfl) | exact Or.inr (Or.inr rfl))) (ie_gl T.k_LISTS (by exact rfl)) (by with_unfolding_all rfl)))) ia_nil)))))) (is_one (is_ret ie_bl)) is_nil) (is_cons (is_if (PW.pt (iw_or (it_cmp (op_has B.u65) hasU_noe hasU_ok (ie_v (i := 2) rfl (by first | exact Or.inl rfl | exact Or.inr (Or.inl rfl) | exact Or.inr (Or.inr rfl))) (ie_gl T.k_OF_HEAP (by exact rfl)) (by with_unfolding_all rfl)) (iw_or1 (it_cmp (op_has B.u65) hasU_noe hasU_ok (ie_back false (ie_v (i := 2) rfl (by first | exact Or.inl rfl | exact Or.inr (Or.inl rfl) | exact Or.inr (Or.inr rfl)))) (ie_gl T.k_OF_HEAP (by exact rfl)) (by with_unfolding_all rfl))))) (is_one (is_ret ie_bl)) is_nil) (is_cons (is_asg (ie_tup (ia_cons (ie_call C_named_by B (by first | decide | exact Nat.le_refl _) (by exact rfl) (ia_cons (ie_v (i := 0) rfl (by first | exact Or.inl rfl | exact Or.inr (Or.inl rfl) | exact Or.inr (Or.inr rfl))) ia_nil)) (ia_cons (ie_call C_named_by B (by first | decide | exact Nat.le_refl _) (by exact rfl) (ia_cons (ie_v (i := 1) rfl (by first | exact Or.inl rfl | exact Or.inr (Or.inl rfl) | exact Or.inr (Or.inr rfl))) ia_nil)) ia_nil))) (ig_seq B.calm (igs_cons (ig_name (i := 3) s_do_clash.nd rfl (by first | exact Or.inl rfl | exact Or.inr rfl)) (igs_cons (ig_name (i := 4) s_do_clash.nd rfl (by first | exact Or.inl rfl | exact Or.inr rfl)) igs_nil)))) (is_one (is_ret (ie_or (ie_any B.calm (by exact rfl) T.b_any (ia_cons (ie_comp false B.calm s_do_clash.nd (own := [("item", 6)]) (ii_any (ie_call C_changed_by B (by first | decide | exact Nat.le_refl _) (by exact rfl) (ia_cons (ie_v (i := 0) rfl (by first | exact Or.inl rfl | exact Or.inr (Or.inl rfl) | exact Or.inr (Or.inr rfl))) ia_nil))) (blkOk_by (N := ["one", "other", "words", "mine", "yours", "word", "item"]) (sc := defScope st_do_clash) (by decide +kernel)) (by decide) (fun s0 h0 c0 l0 q0 => (ig_name (i := 6) s_do_clash.nd rfl (by first | exact Or.inl rfl | exact Or.inr rfl))) (fun s0 h0 c0 l0 q0 => its_nil) (fun s0 h0 c0 l0 q0 => (ie_cmp (op_has (Bd.blk B s0 h0 _ _ q0).u65) hasU_noe hasU_ok (ie_v (i := 6) rfl (by first | exact Or.inl rfl | exact Or.inr (Or.inl rfl) | exact Or.inr (Or.inr rfl))) (ie_v (i := 4) rfl (by first | exact Or.inl rfl | exact Or.inr (Or.inl rfl) | exact Or.inr (Or.inr rfl))) (by with_unfolding_all rfl)))) ia_nil)) (ie_one (ie_any B.calm (by exact rfl) T.b_any (ia_cons (ie_comp false B.calm s_do_clash.nd (own := [("item", 6)]) (ii_any (ie_call C_changed_by B (by first | decide | exact Nat.le_refl _) (by exact rfl) (ia_cons (ie_v (i := 1) rfl (by first | exact Or.inl rfl | exact Or.inr (Or.inl rfl) | exact Or.inr (Or.inr rfl))) ia_nil))) (blkOk_by (N := ["one", "other", "words", "mine", "yours", "word", "item"]) (sc := defScope st_do_clash) (by decide +kernel)) (by decide) (fun s0 h0 c0 l0 q0 => (ig_name (i := 6) s_do_clash.nd rfl (by first | exact Or.inl rfl | exact Or.inr rfl))) (fun s0 h0 c0 l0 q0 => its_nil) (fun s0 h0 c0 l0 q0 => (ie_cmp (op_has (Bd.blk B s0 h0 _ _ q0).u65) hasU_noe hasU_ok (ie_v (i := 6) rfl (by first | exact Or.inl rfl | exact Or.inr (Or.inl rfl) | exact Or.inr (Or.inr rfl))) (ie_v (i := 3) rfl (by first | exact Or.inl rfl | exact Or.inr (Or.inl rfl) | exact Or.inr (Or.inr rfl))) (by with_unfolding_all rfl)))) ia_nil))))))))))
  exact z.pop
/-! ### is_word -/
abbrev st_is_word : Stmt := top 6
theorem s_is_word : FnScope ["value", "words"] ["value", "words"] (defScope st_is_word) := ⟨rfl, rfl, rfl, by decide +kernel, rfl, by decide +kernel, by decide +kernel⟩
noncomputable def c_is_word (G : Glb) : SM :=
  retS (andE (un (isiU "str") (vE 0)) (bin (hasU false) (vE 0) (vE 1)))
noncomputable def f_is_word (G : Glb) : List U → IH → R U := popF (fnR 2 2 (c_is_word G))
theorem g_is_word {P : Program} {w : World} {K : PySem.W.Frag} {mg : Str → Option Value} {base : Heap} {G : Glb} (T : Txt P w K mg G) {f : Addr} {fd : FuncData} (F : L2.Fun K "is_word" "is_word" st_is_word f fd) : FnG P w K mg base 1 f fd ["value", "words"] (spI K 2 (f_is_word G)) := by
  have z : FnG P w K mg base 1 f fd ["value", "words"] (spI K 2 (fnR 2 2 (c_is_word G))) := fn_n F s_is_word rfl rfl (b := c_is_word G) fun cd A out s H E B =>
    (is_one (is_ret (ie_and (ie_isi (T := "str") (by exact rfl) T.b_isinstance (by exact rfl) T.b_str (by decide +kernel) (ie_v (i := 0) rfl (by first | exact Or.inl rfl | exact Or.inr (Or.inl rfl) | exact Or.inr (Or.inr rfl)))) (ie_one (ie_cmp (op_has B.u65) hasU_noe hasU_ok (ie_v (i := 0) rfl (by first | exact Or.inl rfl | exact Or.inr (Or.inl rfl) | exact Or.inr (Or.inr rfl))) (ie_v (i := 1) rfl (by first | exact Or.inl rfl | exact Or.inr (Or.inl rfl) | exact Or.inr (Or.inr rfl))) (by with_unfolding_all rfl))))))
  exact z.pop
/-! ### is_integer -/
abbrev st_is_integer : Stmt := top 4
theorem s_is_integer : FnScope ["value"] ["value"] (defScope st_is_integer) := ⟨rfl, rfl, rfl, by decide +kernel, rfl, by decide +kernel, by decide +kernel⟩
noncomputable def c_is_integer (G : Glb) : SM :=
  retS (andE (un (isiU "int") (vE 0)) (notE (un (isiU "bool") (vE 0))))
noncomputable def f_is_integer (G : Glb) : List U → IH → R U := popF (fnR 1 1 (c_is_integer G))
theorem g_is_integer {P : Program} {w : World} {K : PySem.W.Frag} {mg : Str → Option Value} {base : Heap} {G : Glb} (T : Txt P w K mg G) {f : Addr} {fd : FuncData} (F : L2.Fun K "is_integer" "is_integer" st_is_integer f fd) : FnG P w K mg base 1 f fd ["value"] (spI K 1 (f_is_integer G)) := by
  have z : FnG P w K mg base 1 f fd ["value"] (spI K 1 (fnR 1 1 (c_is_integer G))) := fn_n F s_is_integer rfl rfl (b := c_is_integer G) fun cd A out s H E B =>
    (is_one (is_ret (ie_and (ie_isi (T := "int") (by exact rfl) T.b_isinstance (by exact rfl) T.b_int (by decide +kernel) (ie_v (i := 0) rfl (by first | exact Or.inl rfl | exact Or.inr (Or.inl rfl) | exact Or.inr (Or.inr rfl)))) (ie_one (ie_not (ie_isi (T := "bool") (by exact rfl) T.b_isinstance (by exact rfl) T.b_bool (by decide +kernel) (ie_v (i := 0) rfl (by first | exact Or.inl rfl | exact Or.inr (Or.inl rfl) | exact Or.inr (Or.inr rfl)))))))))
  exact z.pop
/-! ### is_between -/
abbrev st_is_between : Stmt := top 5
theorem s_is_between : FnScope ["value", "low", "high"] ["value", "low", "high"] (defScope st_is_between) := ⟨rfl, rfl, rfl, by decide +kernel, rfl, by decide +kernel, by decide +kernel⟩
noncomputable def c_is_between (G : Glb) : SM :=
  retS (andE (callF 1 (f_is_integer G) (consA (vE 0) (nilA))) (chn leU leU (vE 1) (vE 0) (vE 2)))
noncomputable def f_is_between (G : Glb) : List U → IH → R U := popF (fnR 3 3 (c_is_between G))
theorem g_is_between {P : Program} {w : World} {K : PySem.W.Frag} {mg : Str → Option Value} {base : Heap} {G : Glb} (T : Txt P w K mg G) (C_is_integer : Cal P w K mg base 1 "is_integer" 1 (f_is_integer G)) {f : Addr} {fd : FuncData} (F : L2.Fun K "is_between" "is_between" st_is_between f fd) : FnG P w K mg base 2 f fd ["value", "low", "high"] (spI K 3 (f_is_between G)) := by
  have z : FnG P w K mg base 2 f fd ["value", "low", "high"] (spI K 3 (fnR 3 3 (c_is_between G))) := fn_n F s_is_between rfl rfl (b := c_is_between G) fun cd A out s H E B =>
    (is_one (is_ret (ie_and (ie_call C_is_integer B (by first | decide | exact Nat.le_refl _) (by exact rfl) (ia_cons (ie_v (i := 0) rfl (by first | exact Or.inl rfl | exact Or.inr (Or.inl rfl) | exact Or.inr (Or.inr rfl))) ia_nil)) (ie_one (ie_chain op_le op_le cmpU_noe cmpU_noe cmpU_ok cmpU_ok (ie_v (i := 1) rfl (by first | exact Or.inl rfl | exact Or.inr (Or.inl rfl) | exact Or.inr (Or.inr rfl))) (ie_v (i := 0) rfl (by first | exact Or.inl rfl | exact Or.inr (Or.inl rfl) | exact Or.inr (Or.inr rfl))) (ie_v (i := 2) rfl (by first | exact Or.inl rfl | exact Or.inr (Or.inl rfl) | exact Or.inr (Or.inr rfl))))))))
  exact z.pop
/-! ### is_part -/
abbrev st_is_part : Stmt := top 12
theorem s_is_part : FnScope ["letter", "roots", "value"] ["letter", "roots", "value"] (defScope st_is_part) := ⟨rfl, rfl, rfl, by decide +kernel, rfl, by decide +kernel, by decide +kernel⟩
noncomputable def c_is_part (G : Glb) : SM :=
  seq (ifS (asB (bin (eqU false) (vE 0) (cE (.str "n")))) (retS (callF 3 (f_is_between G) (consA (vE 2) (consA (negE (cE (.int 1000))) (consA (cE (.int 1000)) (nilA)))))) (nxS)) (retS (callF 3 (f_is_between G) (consA (vE 2) (consA (cE (.int 0)) (consA (bin (sbU G.tab) (dispE [(cE (.str "r"), bin subU (vE 1) (cE (.int 1))), (cE (.str "i"), cE (.int 3)), (cE (.str "p"), cE (.int 4))]) (vE 0)) (nilA))))))
noncomputable def f_is_part (G : Glb) : List U → IH → R U := popF (fnR 3 3 (c_is_part G))
theorem g_is_part {P : Program} {w : World} {K : PySem.W.Frag} {mg : Str → Option Value} {base : Heap} {G : Glb} (T : Txt P w K mg G) (C_is_between : Cal P w K mg base 2 "is_between" 3 (f_is_between G)) {f : Addr} {fd : FuncData} (F : L2.Fun K "is_part" "is_part" st_is_part f fd) : FnG P w K mg base 3 f fd ["letter", "roots", "value"] (spI K 3 (f_is_part G)) := by
  have z : FnG P w K mg base 3 f fd ["letter", "roots", "value"] (spI K 3 (fnR 3 3 (c_is_part G))) := fn_n F s_is_part rfl rfl (b := c_is_part G) fun cd A out s H E B =>
    (is_cons (is_if (it_cmp (op_eqD B.u64) eqU_noe eqU_ok (ie_v (i := 0) rfl (by first | exact Or.inl rfl | exact Or.inr (Or.inl rfl) | exact Or.inr (Or.inr rfl))) ie_str (nomark _)) (is_one (is_ret (ie_call C_is_between B (by first | decide | exact Nat.le_refl _) (by exact rfl) (ia_cons (ie_v (i := 2) rfl (by first | exact Or.inl rfl | exact Or.inr (Or.inl rfl) | exact Or.inr (Or.inr rfl))) (ia_cons (ie_neg (ie_gl T.k_MOST_NUMBER (by exact rfl))) (ia_cons (ie_gl T.k_MOST_NUMBER (by exact rfl)) ia_nil)))))) is_nil) (is_one (is_ret (ie_call C_is_between B (by first | decide | exact Nat.le_refl _) (by exact rfl) (ia_cons (ie_v (i := 2) rfl (by first | exact Or.inl rfl | exact Or.inr (Or.inl rfl) | exact Or.inr (Or.inr rfl))) (ia_cons ie_int (ia_cons (ie_sub_ B T.tab (ie_disp (prs := [(cE (.str "r"), bin subU (vE 1) (cE (.int 1))), (cE (.str "i"), cE (.int 3)), (cE (.str "p"), cE (.int 4))]) (ipp_cons ie_str (ie_sub (ie_v (i := 1) rfl (by first | exact Or.inl rfl | exact Or.inr (Or.inl rfl) | exact Or.inr (Or.inr rfl))) ie_int) (ipp_cons ie_str ie_int (ipp_cons ie_str ie_int ipp_nil)))) (ie_v (i := 0) rfl (by first | exact Or.inl rfl | exact Or.inr (Or.inl rfl) | exact Or.inr (Or.inr rfl)))) ia_nil)))))))
  exact z.pop
/-! ### is_a_deed -/
abbrev st_is_a_deed : Stmt := top 13
theorem s_is_a_deed : FnScope ["roots", "value", "shape", "letter", "part"] ["roots", "value"] (defScope st_is_a_deed) := ⟨rfl, rfl, rfl, by decide +kernel, rfl, by decide +kernel, by decide +kernel⟩
noncomputable def c_is_a_deed (G : Glb) : SM :=
  seq (ifS (orB (notB (tst (un (isiU "tuple") (vE 1)))) (orB (asB (bin (eqU false) (vE 1) (tupE (nilA)))) (notB (tst (callF 2 (f_is_word G) (consA (bin (sbU G.tab) (vE 1) (cE (.int 0))) (consA (callA (on1 (listW false G.tab)) (consA (cE (.adr G.k_SHAPES)) (nilA))) (nilA)))))))) (retS (cE (.bl false))) (nxS)) (seq (asgS (bin (sbU G.tab) (cE (.adr G.k_SHAPES)) (bin (sbU G.tab) (vE 1) (cE (.int 0)))) (nmG 2)) (seq (ifS (asB (bin (eqU true) (callA (on1 lenU) (consA (vE 1) (nilA))) (bin (addU false) (callA (on1 lenU) (consA (vE 2) (nilA))) (cE (.int 1))))) (retS (cE (.bl false))) (nxS)) (retS (callA (on1 allU) (consA (compE false [3, 4] (zipU (consA (vE 2) (consA (slE false (vE 1) (someP (cE (.int 1))) (noP)) (nilA)))) (seqG 2 (consG (nmG 3) (consG (nmG 4) (nilG)))) (yesB) (callF 3 (f_is_part G) (consA (vE 3) (consA (vE 0) (consA (vE 4) (nilA)))))) (nilA))))))
noncomputable def f_is_a_deed (G : Glb) : List U → IH → R U := popF (fnR 5 2 (c_is_a_deed G))
theorem g_is_a_deed {P : Program} {w : World} {K : PySem.W.Frag} {mg : Str → Option Value} {base : Heap} {G : Glb} (T : Txt P w K mg G) (C_is_part : Cal P w K mg base 3 "is_part" 3 (f_is_part G)) (C_is_word : Cal P w K mg base 1 "is_word" 2 (f_is_word G)) {f : Addr} {fd : FuncData} (F : L2.Fun K "is_a_deed" "is_a_deed" st_is_a_deed f fd) : FnG P w K mg base 4 f fd ["roots", "value"] (spI K 2 (f_is_a_deed G)) := by
  have z : FnG P w K mg base 4 f fd ["roots", "value"] (spI K 2 (fnR 5 2 (c_is_a_deed G))) := fn_n F s_is_a_deed rfl rfl (b := c_is_a_deed G) fun cd A out s H E B =>
    (is_cons (is_if (PW.pt (iw_or (it_not (it_tru (ie_isi (T := "tuple") (by exact rfl) T.b_isinstance (by exact rfl) T.b_tuple (by decide +kernel) (ie_v (i := 1) rfl (by first | exact Or.inl rfl | exact Or.inr (Or.inl rfl) | exact Or.inr (Or.inr rfl)))))) (iw_or (it_cmp (op_eqD B.u64) eqU_noe eqU_ok (ie_v (i := 1) rfl (by first | exact Or.inl rfl | exact Or.inr (Or.inl rfl) | exact Or.inr (Or.inr rfl))) (ie_tup ia_nil) (nomark _)) (iw_or1 (it_not (it_tru (ie_call C_is_word B (by first | decide | exact Nat.le_refl _) (by exact rfl) (ia_cons (ie_sub_ B T.tab (ie_v (i := 1) rfl (by first | exact Or.inl rfl | exact Or.inr (Or.inl rfl) | exact Or.inr (Or.inr rfl))) ie_int) (ia_cons (ie_listA false T.tab B.calm (by exact rfl) T.b_list (ia_cons (ie_gl T.k_SHAPES (by exact rfl)) ia_nil)) ia_nil))))))))) (is_one (is_ret ie_bl)) is_nil) (is_cons (is_set (i := 2) s_is_a_deed.nd rfl (by first | exact Or.inl rfl | exact Or.inr rfl) (ie_sub_ B T.tab (ie_gl T.k_SHAPES (by exact rfl)) (ie_sub_ B T.tab (ie_v (i := 1) rfl (by first | exact Or.inl rfl | exact Or.inr (Or.inl rfl) | exact Or.inr (Or.inr rfl))) ie_int))) (is_cons (is_if (it_cmp (op_neD B.u64) eqU_noe neU_ok (ie_len (by exact rfl) T.b_len (ia_cons (ie_v (i := 1) rfl (by first | exact Or.inl rfl | exact Or.inr (Or.inl rfl) | exact Or.inr (Or.inr rfl))) ia_nil)) (ie_add false (ie_len (by exact rfl) T.b_len (ia_cons (ie_v (i := 2) rfl (by first | exact Or.inl rfl | exact Or.inr (Or.inl rfl) | exact Or.inr (Or.inr rfl))) ia_nil)) ie_int) (nomark _)) (is_one (is_ret ie_bl)) is_nil) (is_one (is_ret (ie_all B.calm (by exact rfl) T.b_all (ia_cons (ie_comp false B.calm s_is_a_deed.nd (own := [("letter", 3), ("part", 4)]) (ii_zip (by exact rfl) T.b_zip (ia_cons (ie_v (i := 2) rfl (by first | exact Or.inl rfl | exact Or.inr (Or.inl rfl) | exact Or.inr (Or.inr rfl))) (ia_cons (ie_sl false (ie_v (i := 1) rfl (by first | exact Or.inl rfl | exact Or.inr (Or.inl rfl) | exact Or.inr (Or.inr rfl))) (io_some ie_int) io_none) ia_nil))) (blkOk_by (N := ["roots", "value", "shape", "letter", "part"]) (sc := defScope st_is_a_deed) (by decide +kernel)) (by decide) (fun s0 h0 c0 l0 q0 => (ig_seq (Bd.blk B s0 h0 _ _ q0).calm (igs_cons (ig_name (i := 3) s_is_a_deed.nd rfl (by first | exact Or.inl rfl | exact Or.inr rfl)) (igs_cons (ig_name (i := 4) s_is_a_deed.nd rfl (by first | exact Or.inl rfl | exact Or.inr rfl)) igs_nil)))) (fun s0 h0 c0 l0 q0 => its_nil) (fun s0 h0 c0 l0 q0 => (ie_call C_is_part (Bd.blk B s0 h0 _ _ q0) (by first | decide | exact Nat.le_refl _) (by exact rfl) (ia_cons (ie_v (i := 3) rfl (by first | exact Or.inl rfl | exact Or.inr (Or.inl rfl) | exact Or.inr (Or.inr rfl))) (ia_cons (ie_v (i := 0) rfl (by first | exact Or.inl rfl | exact Or.inr (Or.inl rfl) | exact Or.inr (Or.inr rfl))) (ia_cons (ie_v (i := 4) rfl (by first | exact Or.inl rfl | exact Or.inr (Or.inl rfl) | exact Or.inr (Or.inr rfl))) ia_nil)))))) ia_nil)))))))
  exact z.pop
/-! ### anew -/
abbrev st_anew : Stmt := top 7
theorem s_anew : FnScope ["value", "part"] ["value"] (defScope st_anew) := ⟨rfl, rfl, rfl, by decide +kernel, rfl, by decide +kernel, by decide +kernel⟩
noncomputable def c_anew (G : Glb) (self : List U → IH → R U) : SM :=
  seq (ifS (tst (un (isiU "list") (vE 0))) (retS (compE false [1] (walkA (vE 0)) (nmG 1) (yesB) (callF 1 (self) (consA (vE 1) (nilA))))) (nxS)) (seq (ifS (tst (un (isiU "tuple") (vE 0))) (retS (callA (on1 tupleU) (consA (compE false [1] (walkA (vE 0)) (nmG 1) (yesB) (callF 1 (self) (consA (vE 1) (nilA)))) (nilA)))) (nxS)) (retS (vE 0)))
noncomputable def f_anew (G : Glb) : Nat → List U → IH → R U
  | 0 => fun _ _ => .bad
  | j + 1 => popF (fnR 2 1 (c_anew G (f_anew G j)))
theorem g_anew {P : Program} {w : World} {K : PySem.W.Frag} {mg : Str → Option Value} {base : Heap} {G : Glb} (T : Txt P w K mg G) {f : Addr} {fd : FuncData} (F : L2.Fun K "anew" "anew" st_anew f fd) (hm : mg "anew" = some (.ref f)) (hb : Binds K fd ["value"] []) : ∀ j, Cal P w K mg base j "anew" 1 (f_anew G j)
  | 0 => ⟨f, fd, ["value"], ⟨fun vs H Q E ⟨us, m, h, e, r, s, p⟩ => p.elim, fun A out s H args us vs Q E _ _ _ _ _ ⟨us2, m, h, e, r, s2, p⟩ => p.elim⟩, hm, F.kp, hb, rfl⟩
  | j + 1 => by
    have C_anew := g_anew (base := base) T F hm hb j
    exact ⟨f, fd, ["value"], ((fn_n F s_anew rfl rfl (b := c_anew G (f_anew G j)) fun cd A out s H E B => (is_cons (is_if (it_tru (ie_isi (T := "list") (by exact rfl) T.b_isinstance (by exact rfl) T.b_list (by decide +kernel) (ie_v (i := 0) rfl (by first | exact Or.inl rfl | exact Or.inr (Or.inl rfl) | exact Or.inr (Or.inr rfl))))) (is_one (is_ret (ie_comp false B.calm s_anew.nd (own := [("part", 1)]) (ii_any (ie_v (i := 0) rfl (by first | exact Or.inl rfl | exact Or.inr (Or.inl rfl) | exact Or.inr (Or.inr rfl)))) (blkOk_by (N := ["value", "part"]) (sc := defScope st_anew) (by decide +kernel)) (by decide) (fun s0 h0 c0 l0 q0 => (ig_name (i := 1) s_anew.nd rfl (by first | exact Or.inl rfl | exact Or.inr rfl))) (fun s0 h0 c0 l0 q0 => its_nil) (fun s0 h0 c0 l0 q0 => (ie_call C_anew (Bd.blk B s0 h0 _ _ q0) (by first | decide | exact Nat.le_refl _) (by exact rfl) (ia_cons (ie_v (i := 1) rfl (by first | exact Or.inl rfl | exact Or.inr (Or.inl rfl) | exact Or.inr (Or.inr rfl))) ia_nil)))))) is_nil) (is_cons (is_if (it_tru (ie_isi (T := "tuple") (by exact rfl) T.b_isinstance (by exact rfl) T.b_tuple (by decide +kernel) (ie_v (i := 0) rfl (by first | exact Or.inl rfl | exact Or.inr (Or.inl rfl) | exact Or.inr (Or.inr rfl))))) (is_one (is_ret (ie_tuple (by exact rfl) T.b_tuple (ia_cons (ie_comp false B.calm s_anew.nd (own := [("part", 1)]) (ii_any (ie_v (i := 0) rfl (by first | exact Or.inl rfl | exact Or.inr (Or.inl rfl) | exact Or.inr (Or.inr rfl)))) (blkOk_by (N := ["value", "part"]) (sc := defScope st_anew) (by decide +kernel)) (by decide) (fun s0 h0 c0 l0 q0 => (ig_name (i := 1) s_anew.nd rfl (by first | exact Or.inl rfl | exact Or.inr rfl))) (fun s0 h0 c0 l0 q0 => its_nil) (fun s0 h0 c0 l0 q0 => (ie_call C_anew (Bd.blk B s0 h0 _ _ q0) (by first | decide | exact Nat.le_refl _) (by exact rfl) (ia_cons (ie_v (i := 1) rfl (by first | exact Or.inl rfl | exact Or.inr (Or.inl rfl) | exact Or.inr (Or.inr rfl))) ia_nil)))) ia_nil)))) is_nil) (is_one (is_ret (ie_v (i := 0) rfl (by first | exact Or.inl rfl | exact Or.inr (Or.inl rfl) | exact Or.inr (Or.inr rfl))))))))).pop, hm, F.kp, hb, rfl⟩
/-! ### clash -/
abbrev st_clash : Stmt := top 21
theorem s_clash : FnScope ["one", "other", "deed"] ["one", "other"] (defScope st_clash) := ⟨rfl, rfl, rfl, by decide +kernel, rfl, by decide +kernel, by decide +kernel⟩
noncomputable def c_clash (G : Glb) : SM :=
  seq (forS (walkA (tupE (consA (vE 0) (consA (vE 1) (nilA))))) (nmG 2) (ifS (notB (tst (callF 2 (f_is_a_deed G) (consA (cE (.int 6)) (consA (vE 2) (nilA)))))) (raiseS G.e_InvalidDeed (callF 1 (f_anew G 6) (consA (vE 2) (nilA)))) (nxS))) (retS (callF 2 (f_do_clash G) (consA (vE 0) (consA (vE 1) (nilA)))))
noncomputable def f_clash (G : Glb) : List U → IH → R U := popF (fnR 3 2 (c_clash G))
theorem g_clash {P : Program} {w : World} {K : PySem.W.Frag} {mg : Str → Option Value} {base : Heap} {G : Glb} (T : Txt P w K mg G) (C_anew : Cal P w K mg base 6 "anew" 1 (f_anew G 6)) (C_do_clash : Cal P w K mg base 2 "do_clash" 2 (f_do_clash G)) (C_is_a_deed : Cal P w K mg base 4 "is_a_deed" 2 (f_is_a_deed G)) {f : Addr} {fd : FuncData} (F : L2.Fun K "clash" "clash" st_clash f fd) : FnG P w K mg base 7 f fd ["one", "other"] (spI K 2 (f_clash G)) := by
  have z : FnG P w K mg base 7 f fd ["one", "other"] (spI K 2 (fnR 3 2 (c_clash G))) := fn_n F s_clash rfl rfl (b := c_clash G) fun cd A out s H E B =>
    (is_cons (is_for B.own B.calm (ii_any (ie_tup (ia_cons (ie_v (i := 0) rfl (by first | exact Or.inl rfl | exact Or.inr (Or.inl rfl) | exact Or.inr (Or.inr rfl))) (ia_cons (ie_v (i := 1) rfl (by first | exact Or.inl rfl | exact Or.inr (Or.inl rfl) | exact Or.inr (Or.inr rfl))) ia_nil)))) (ig_name (i := 2) s_clash.nd rfl (by first | exact Or.inl rfl | exact Or.inr rfl)) (is_one (is_if (it_not (it_tru (ie_call C_is_a_deed B (by first | decide | exact Nat.le_refl _) (by exact rfl) (ia_cons (ie_gl T.k_MOST_ROOTS (by exact rfl)) (ia_cons (ie_v (i := 2) rfl (by first | exact Or.inl rfl | exact Or.inr (Or.inl rfl) | exact Or.inr (Or.inr rfl))) ia_nil))))) (is_one (is_raise B T.errB T.err_InvalidDeed T.e_InvalidDeed (ie_call C_anew B (by first | decide | exact Nat.le_refl _) (by exact rfl) (ia_cons (ie_v (i := 2) rfl (by first | exact Or.inl rfl | exact Or.inr (Or.inl rfl) | exact Or.inr (Or.inr rfl))) ia_nil)) rfl)) is_nil))) (is_one (is_ret (ie_call C_do_clash B (by first | decide | exact Nat.le_refl _) (by exact rfl) (ia_cons (ie_v (i := 0) rfl (by first | exact Or.inl rfl | exact Or.inr (Or.inl rfl) | exact Or.inr (Or.inr rfl))) (ia_cons (ie_v (i := 1) rfl (by first | exact Or.inl rfl | exact Or.inr (Or.inl rfl) | exact Or.inr (Or.inr rfl))) ia_nil))))))
  exact z.pop
/-! ### _law_refused -/
abbrev st_u_law_refused : Stmt := top 39
theorem s_u_law_refused : FnScope ["one", "other", "due", "caught", "e"] ["one", "other", "due"] (defScope st_u_law_refused) := ⟨rfl, rfl, rfl, by decide +kernel, rfl, by decide +kernel, by decide +kernel⟩
noncomputable def c_u_law_refused (G : Glb) : SM :=
  seq (asgS (cE .non) (nmG 3)) (seq (catchS G.hit 4 3 (exprS (callF 2 (f_clash G) (consA (vE 0) (consA (vE 1) (nilA)))))) (retS (andE (un (isxU G.is_InvalidDeed) (vE 3)) (bin (eqU false) (callA (on1 reprU) (consA (un (valU G.isErr) (vE 3)) (nilA))) (callA (on1 reprU) (consA (vE 2) (nilA)))))))
noncomputable def f_u_law_refused (G : Glb) : List U → IH → R U := popF (fnR 5 3 (c_u_law_refused G))
theorem g_u_law_refused {P : Program} {w : World} {K : PySem.W.Frag} {mg : Str → Option Value} {base : Heap} {G : Glb} (T : Txt P w K mg G) (C_clash : Cal P w K mg base 7 "clash" 2 (f_clash G)) {f : Addr} {fd : FuncData} (F : L2.Fun K "_law_refused" "_law_refused" st_u_law_refused f fd) : FnG P w K mg base 8 f fd ["one", "other", "due"] (spI K 3 (f_u_law_refused G)) := by
  have z : FnG P w K mg base 8 f fd ["one", "other", "due"] (spI K 3 (fnR 5 3 (c_u_law_refused G))) := fn_n F s_u_law_refused rfl rfl (b := c_u_law_refused G) fun cd A out s H E B =>
    (is_cons (is_set (i := 3) s_u_law_refused.nd rfl (by first | exact Or.inl rfl | exact Or.inr rfl) ie_non) (is_cons (is_catch (i := 4) (j := 3) B rfl rfl s_u_law_refused.nd rfl rfl (by decide) rfl rfl ⟨rfl, by decide, Or.inl T.e_HeapError⟩ T.hit (fun _ _ _ b1 => (is_one (is_expr (ie_call C_clash b1 (by first | decide | exact Nat.le_refl _) (by exact rfl) (ia_cons (ie_v (i := 0) rfl (by first | exact Or.inl rfl | exact Or.inr (Or.inl rfl) | exact Or.inr (Or.inr rfl))) (ia_cons (ie_v (i := 1) rfl (by first | exact Or.inl rfl | exact Or.inr (Or.inl rfl) | exact Or.inr (Or.inr rfl))) ia_nil))))))) (is_one (is_ret (ie_and (ie_isx (C2 := G.e_InvalidDeed) (by exact rfl) T.b_isinstance (by exact rfl) T.e_InvalidDeed (ie_v (i := 3) rfl (by first | exact Or.inl rfl | exact Or.inr (Or.inl rfl) | exact Or.inr (Or.inr rfl))) T.is_InvalidDeed T.no_InvalidDeed) (ie_one (ie_cmp (op_eqD B.u64) eqU_noe eqU_ok (ie_repr B.gd B.u66 (by exact rfl) T.b_repr (ia_cons (ie_value T.errV (ie_v (i := 3) rfl (by first | exact Or.inl rfl | exact Or.inr (Or.inl rfl) | exact Or.inr (Or.inr rfl)))) ia_nil)) (ie_repr B.gd B.u66 (by exact rfl) T.b_repr (ia_cons (ie_v (i := 2) rfl (by first | exact Or.inl rfl | exact Or.inr (Or.inl rfl) | exact Or.inr (Or.inr rfl))) ia_nil)) (nomark _))))))))
  exact z.pop
/-! ### _law_store -/
abbrev st_u_law_store : Stmt := top 26
theorem s_u_law_store : FnScope ["roots"] ["roots"] (defScope st_u_law_store) := ⟨rfl, rfl, rfl, by decide +kernel, rfl, by decide +kernel, by decide +kernel⟩
noncomputable def c_u_law_store (G : Glb) : SM :=
  retS (dispE [(cE (.str "root"), bin (mulU true) (lstE false (consA (cE .non) (nilA))) (vE 0)), (cE (.str "weak"), bin (mulU true) (lstE false (consA (cE .non) (nilA))) (cE (.int 4))), (cE (.str "wish"), lstE true (nilA)), (cE (.str "queue"), lstE true (nilA)), (cE (.str "objects"), lstE true (nilA))])
noncomputable def f_u_law_store (G : Glb) : List U → IH → R U := fnR 1 1 (c_u_law_store G)
theorem g_u_law_store {P : Program} {w : World} {K : PySem.W.Frag} {mg : Str → Option Value} {base : Heap} {G : Glb} (T : Txt P w K mg G) {f : Addr} {fd : FuncData} (F : L2.Fun K "_law_store" "_law_store" st_u_law_store f fd) : FnG P w K mg base 1 f fd ["roots"] (spI K 1 (f_u_law_store G)) := by
  have z : FnG P w K mg base 1 f fd ["roots"] (spI K 1 (fnR 1 1 (c_u_law_store G))) := fn_n F s_u_law_store rfl rfl (b := c_u_law_store G) fun cd A out s H E B =>
    (is_one (is_ret (ie_disp (prs := [(cE (.str "root"), bin (mulU true) (lstE false (consA (cE .non) (nilA))) (vE 0)), (cE (.str "weak"), bin (mulU true) (lstE false (consA (cE .non) (nilA))) (cE (.int 4))), (cE (.str "wish"), lstE true (nilA)), (cE (.str "queue"), lstE true (nilA)), (cE (.str "objects"), lstE true (nilA))]) (ipp_cons ie_str (ie_mul true (ie_lst false (ia_cons ie_non ia_nil)) (ie_v (i := 0) rfl (by first | exact Or.inl rfl | exact Or.inr (Or.inl rfl) | exact Or.inr (Or.inr rfl)))) (ipp_cons ie_str (ie_mul true (ie_lst false (ia_cons ie_non ia_nil)) ie_int) (ipp_cons ie_str (ie_lst true ia_nil) (ipp_cons ie_str (ie_lst true ia_nil) (ipp_cons ie_str (ie_lst true ia_nil) ipp_nil))))))))
  exact z
/-! ### _law_led -/
abbrev st_u_law_led : Stmt := top 27
theorem s_u_law_led : FnScope ["store", "words", "found", "word", "x", "at", "turn", "y"] ["store", "words"] (defScope st_u_law_led) := ⟨rfl, rfl, rfl, by decide +kernel, rfl, by decide +kernel, by decide +kernel⟩
noncomputable def c_u_law_led (G : Glb) : SM :=
  seq (asgS (lstE true (nilA)) (nmG 2)) (seq (forS (walkA (vE 1)) (nmG 3) (forS (walkA (bin (sbU G.tab) (vE 0) (vE 3))) (nmG 4) (ifS (andB (asB (bin (isNU true) (vE 4) (cE .non))) (asB (bin (hasU true) (vE 4) (vE 2)))) (exprS (bmE appU (vE 2) (consA (vE 4) (nilA)))) (nxS)))) (seq (asgS (cE (.int 0)) (nmG 5)) (seq (forS (rng1 (consA (bin (addU false) (callA (on1 lenU) (consA (bin (sbU G.tab) (vE 0) (cE (.str "objects"))) (nilA))) (cE (.int 1))) (nilA))) (nmG 6) (ifS (asB (bin ltU (vE 5) (callA (on1 lenU) (consA (vE 2) (nilA))))) (seq (forS (walkA (bin (sbU G.tab) (bin (sbU G.tab) (bin (sbU G.tab) (vE 0) (cE (.str "objects"))) (bin (sbU G.tab) (vE 2) (vE 5))) (cE (.int 0)))) (nmG 7) (ifS (andB (asB (bin (isNU true) (vE 7) (cE .non))) (asB (bin (hasU true) (vE 7) (vE 2)))) (exprS (bmE appU (vE 2) (consA (vE 7) (nilA)))) (nxS))) (asgS (bin (addU false) (vE 5) (cE (.int 1))) (nmG 5))) (nxS))) (retS (vE 2)))))
noncomputable def f_u_law_led (G : Glb) : List U → IH → R U := popF (fnR 8 2 (c_u_law_led G))
theorem g_u_law_led {P : Program} {w : World} {K : PySem.W.Frag} {mg : Str → Option Value} {base : Heap} {G : Glb} (T : Txt P w K mg G) {f : Addr} {fd : FuncData} (F : L2.Fun K "_law_led" "_law_led" st_u_law_led f fd) : FnG P w K mg base 1 f fd ["store", "words"] (spI K 2 (f_u_law_led G)) := by
  have z : FnG P w K mg base 1 f fd ["store", "words"] (spI K 2 (fnR 8 2 (c_u_law_led G))) := fn_n F s_u_law_led rfl rfl (b := c_u_law_led G) fun cd A out s H E B =>
    (is_cons (is_set (i := 2) s_u_law_led.nd rfl (by first | exact Or.inl rfl | exact Or.inr rfl) (ie_lst true ia_nil)) (is_cons (is_for B.own B.calm (ii_any (ie_v (i := 1) rfl (by first | exact Or.inl rfl | exact Or.inr (Or.inl rfl) | exact Or.inr (Or.inr rfl)))) (ig_name (i := 3) s_u_law_led.nd rfl (by first | exact Or.inl rfl | exact Or.inr rfl)) (is_one (is_for B.own B.calm (ii_any (ie_sub_ B T.tab (ie_v (i := 0) rfl (by first | exact Or.inl rfl | exact Or.inr (Or.inl rfl) | exact Or.inr (Or.inr rfl))) (ie_v (i := 3) rfl (by first | exact Or.inl rfl | exact Or.inr (Or.inl rfl) | exact Or.inr (Or.inr rfl))))) (ig_name (i := 4) s_u_law_led.nd rfl (by first | exact Or.inl rfl | exact Or.inr rfl)) (is_one (is_if (PW.pt (iw_and (it_cmp op_notN isNU_noe isNotU_ok (ie_v (i := 4) rfl (by first | exact Or.inl rfl | exact Or.inr (Or.inl rfl) | exact Or.inr (Or.inr rfl))) ie_non (nomark _)) (iw_and1 (it_cmp (op_hasNot B.u65) hasU_noe hasU_ok (ie_v (i := 4) rfl (by first | exact Or.inl rfl | exact Or.inr (Or.inl rfl) | exact Or.inr (Or.inr rfl))) (ie_v (i := 2) rfl (by first | exact Or.inl rfl | exact Or.inr (Or.inl rfl) | exact Or.inr (Or.inr rfl))) (by with_unfolding_all rfl))))) (is_one (is_expr (ie_append (ie_v (i := 2) rfl (by first | exact Or.inl rfl | exact Or.inr (Or.inl rfl) | exact Or.inr (Or.inr rfl))) (ia_cons (ie_v (i := 4) rfl (by first | exact Or.inl rfl | exact Or.inr (Or.inl rfl) | exact Or.inr (Or.inr rfl))) ia_nil)))) is_nil))))) (is_cons (is_set (i := 5) s_u_law_led.nd rfl (by first | exact Or.inl rfl | exact Or.inr rfl) ie_int) (is_cons (is_for B.own B.calm (ii_range1 (by exact rfl) T.b_range (ia_cons (ie_add false (ie_len (by exact rfl) T.b_len (ia_cons (ie_sub_ B T.tab (ie_v (i := 0) rfl (by first | exact Or.inl rfl | exact Or.inr (Or.inl rfl) | exact Or.inr (Or.inr rfl))) ie_str) ia_nil)) ie_int) ia_nil)) (ig_name (i := 6) s_u_law_led.nd rfl (by first | exact Or.inl rfl | exact Or.inr rfl)) (is_one (is_if (it_cmp op_lt cmpU_noe cmpU_ok (ie_v (i := 5) rfl (by first | exact Or.inl rfl | exact Or.inr (Or.inl rfl) | exact Or.inr (Or.inr rfl))) (ie_len (by exact rfl) T.b_len (ia_cons (ie_v (i := 2) rfl (by first | exact Or.inl rfl | exact Or.inr (Or.inl rfl) | exact Or.inr (Or.inr rfl))) ia_nil)) (nomark _)) (is_cons (is_for B.own B.calm (ii_any (ie_sub_ B T.tab (ie_sub_ B T.tab (ie_sub_ B T.tab (ie_v (i := 0) rfl (by first | exact Or.inl rfl | exact Or.inr (Or.inl rfl) | exact Or.inr (Or.inr rfl))) ie_str) (ie_sub_ B T.tab (ie_v (i := 2) rfl (by first | exact Or.inl rfl | exact Or.inr (Or.inl rfl) | exact Or.inr (Or.inr rfl))) (ie_v (i := 5) rfl (by first | exact Or.inl rfl | exact Or.inr (Or.inl rfl) | exact Or.inr (Or.inr rfl))))) ie_int)) (ig_name (i := 7) s_u_law_led.nd rfl (by first | exact Or.inl rfl | exact Or.inr rfl)) (is_one (is_if (PW.pt (iw_and (it_cmp op_notN isNU_noe isNotU_ok (ie_v (i := 7) rfl (by first | exact Or.inl rfl | exact Or.inr (Or.inl rfl) | exact Or.inr (Or.inr rfl))) ie_non (nomark _)) (iw_and1 (it_cmp (op_hasNot B.u65) hasU_noe hasU_ok (ie_v (i := 7) rfl (by first | exact Or.inl rfl | exact Or.inr (Or.inl rfl) | exact Or.inr (Or.inr rfl))) (ie_v (i := 2) rfl (by first | exact Or.inl rfl | exact Or.inr (Or.inl rfl) | exact Or.inr (Or.inr rfl))) (by with_unfolding_all rfl))))) (is_one (is_expr (ie_append (ie_v (i := 2) rfl (by first | exact Or.inl rfl | exact Or.inr (Or.inl rfl) | exact Or.inr (Or.inr rfl))) (ia_cons (ie_v (i := 7) rfl (by first | exact Or.inl rfl | exact Or.inr (Or.inl rfl) | exact Or.inr (Or.inr rfl))) ia_nil)))) is_nil))) (is_one (is_set (i := 5) s_u_law_led.nd rfl (by first | exact Or.inl rfl | exact Or.inr rfl) (ie_add false (ie_v (i := 5) rfl (by first | exact Or.inl rfl | exact Or.inr (Or.inl rfl) | exact Or.inr (Or.inr rfl))) ie_int)))) is_nil))) (is_one (is_ret (ie_v (i := 2) rfl (by first | exact Or.inl rfl | exact Or.inr (Or.inl rfl) | exact Or.inr (Or.inr rfl)))))))))
  exact z.pop
/-! ### _law_picture -/
abbrev st_u_law_picture : Stmt := top 33
theorem s_u_law_picture : FnScope ["store", "order", "numbers", "rows", "objects", "x", "links", "own", "mark", "number", "word", "y"] ["store"] (defScope st_u_law_picture) := ⟨rfl, rfl, rfl, by decide +kernel, rfl, by decide +kernel, by decide +kernel⟩
noncomputable def c_u_law_picture (G : Glb) : SM :=
  seq (asgS (callF 2 (f_u_law_led G) (consA (vE 0) (consA (lstE false (consA (cE (.str "root")) (consA (cE (.str "weak")) (consA (cE (.str "wish")) (consA (cE (.str "queue")) (nilA)))))) (nilA)))) (nmG 1)) (seq (asgS (callA (on1 dicU) (consA (bin (addU false) (compE false [9, 5] (enumU (consA (vE 1) (nilA))) (seqG 2 (consG (nmG 9) (consG (nmG 5) (nilG)))) (yesB) (tupE (consA (vE 5) (consA (vE 9) (nilA))))) (lstE false (consA (tupE (consA (cE .non) (consA (cE .non) (nilA)))) (nilA)))) (nilA))) (nmG 2)) (seq (asgS (compE false [10] (walkA (lstE false (consA (cE (.str "root")) (consA (cE (.str "weak")) (consA (cE (.str "wish")) (consA (cE (.str "queue")) (nilA))))))) (nmG 10) (yesB) (callA (on1 tupleU) (consA (compE false [5] (walkA (bin (sbU G.tab) (vE 0) (vE 10))) (nmG 5) (yesB) (bin (sbU G.tab) (vE 2) (vE 5))) (nilA)))) (nmG 3)) (seq (asgS (lstE true (nilA)) (nmG 4)) (seq (forS (walkA (vE 1)) (nmG 5) (seq (asgS (bin (sbU G.tab) (bin (sbU G.tab) (vE 0) (cE (.str "objects"))) (vE 5)) (seqG 3 (consG (nmG 6) (consG (nmG 7) (consG (nmG 8) (nilG)))))) (exprS (bmE appU (vE 4) (consA (tupE (consA (callA (on1 tupleU) (consA (compE false [11] (walkA (vE 6)) (nmG 11) (yesB) (bin (sbU G.tab) (vE 2) (vE 11))) (nilA))) (consA (callA (on1 tupleU) (consA (vE 7) (nilA))) (consA (vE 8) (nilA))))) (nilA)))))) (retS (tupE (consA (bin (sbU G.tab) (vE 3) (cE (.int 0))) (consA (bin (sbU G.tab) (vE 3) (cE (.int 1))) (consA (bin (sbU G.tab) (vE 3) (cE (.int 2))) (consA (bin (sbU G.tab) (vE 3) (cE (.int 3))) (consA (callA (on1 tupleU) (consA (vE 4) (nilA))) (nilA))))))))))))
noncomputable def f_u_law_picture (G : Glb) : List U → IH → R U := popF (fnR 12 1 (c_u_law_picture G))
theorem g_u_law_picture {P : Program} {w : World} {K : PySem.W.Frag} {mg : Str → Option Value} {base : Heap} {G : Glb} (T : Txt P w K mg G) (C_u_law_led : Cal P w K mg base 1 "_law_led" 2 (f_u_law_led G)) {f : Addr} {fd : FuncData} (F : L2.Fun K "_law_picture" "_law_picture" st_u_law_picture f fd) : FnG P w K mg base 2 f fd ["store"] (spI K 1 (f_u_law_picture G)) := by
  have z : FnG P w K mg base 2 f fd ["store"] (spI K 1 (fnR 12 1 (c_u_law_picture G))) := fn_n F s_u_law_picture rfl rfl (b := c_u_law_picture G) fun cd A out s H E B =>
    (is_cons (is_set (i := 1) s_u_law_picture.nd rfl (by first | exact Or.inl rfl | exact Or.inr rfl) (ie_call C_u_law_led B (by first | decide | exact Nat.le_refl _) (by exact rfl) (ia_cons (ie_v (i := 0) rfl (by first | exact Or.inl rfl | exact Or.inr (Or.inl rfl) | exact Or.inr (Or.inr rfl))) (ia_cons (ie_lst false (ia_cons ie_str (ia_cons ie_str (ia_cons ie_str (ia_cons ie_str ia_nil))))) ia_nil)))) (is_cons (is_set (i := 2) s_u_law_picture.nd rfl (by first | exact Or.inl rfl | exact Or.inr rfl) (ie_dicN B.calm (by exact rfl) T.b_dict (ia_cons (ie_add false (ie_comp false B.calm s_u_law_picture.nd (own := [("number", 9), ("x", 5)]) (ii_enum (by exact rfl) T.b_enumerate (ia_cons (ie_v (i := 1) rfl (by first | exact Or.inl rfl | exact Or.inr (Or.inl rfl) | exact Or.inr (Or.inr rfl))) ia_nil)) (blkOk_by (N := ["store", "order", "numbers", "rows", "objects", "x", "links", "own", "mark", "number", "word", "y"]) (sc := defScope st_u_law_picture) (by decide +kernel)) (by decide) (fun s0 h0 c0 l0 q0 => (ig_seq (Bd.blk B s0 h0 _ _ q0).calm (igs_cons (ig_name (i := 9) s_u_law_picture.nd rfl (by first | exact Or.inl rfl | exact Or.inr rfl)) (igs_cons (ig_name (i := 5) s_u_law_picture.nd rfl (by first | exact Or.inl rfl | exact Or.inr rfl)) igs_nil)))) (fun s0 h0 c0 l0 q0 => its_nil) (fun s0 h0 c0 l0 q0 => (ie_tup (ia_cons (ie_v (i := 5) rfl (by first | exact Or.inl rfl | exact Or.inr (Or.inl rfl) | exact Or.inr (Or.inr rfl))) (ia_cons (ie_v (i := 9) rfl (by first | exact Or.inl rfl | exact Or.inr (Or.inl rfl) | exact Or.inr (Or.inr rfl))) ia_nil))))) (ie_lst false (ia_cons (ie_tup (ia_cons ie_non (ia_cons ie_non ia_nil))) ia_nil))) ia_nil))) (is_cons (is_setComp false (i := 3) B.calm s_u_law_picture.nd rfl rfl (sw_true rfl rfl (by decide) (by decide +kernel)) (own := [("word", 10)]) (ii_any (ie_lst false (ia_cons ie_str (ia_cons ie_str (ia_cons ie_str (ia_cons ie_str ia_nil)))))) (blkOk_by (N := ["store", "order", "numbers", "rows", "objects", "x", "links", "own", "mark", "number", "word", "y"]) (sc := defScope st_u_law_picture) (by decide +kernel)) (by decide) (fun s0 h0 c0 l0 q0 => (ig_name (i := 10) s_u_law_picture.nd rfl (by first | exact Or.inl rfl | exact Or.inr rfl))) (fun s0 h0 c0 l0 q0 => its_nil) (fun s0 h0 c0 l0 q0 => (ie_tuple (by exact rfl) T.b_tuple (ia_cons (ie_comp false (Bd.blk B s0 h0 _ _ q0).calm s_u_law_picture.nd (own := [("x", 5)]) (ii_any (ie_sub_ (Bd.blk B s0 h0 _ _ q0) T.tab (ie_v (i := 0) rfl (by first | exact Or.inl rfl | exact Or.inr (Or.inl rfl) | exact Or.inr (Or.inr rfl))) (ie_v (i := 10) rfl (by first | exact Or.inl rfl | exact Or.inr (Or.inl rfl) | exact Or.inr (Or.inr rfl))))) (blkOk_by (N := ["store", "order", "numbers", "rows", "objects", "x", "links", "own", "mark", "number", "word", "y"]) (by first | decide +kernel | rfl)) (by decide) (fun s1 h1 c1 l1 q1 => (ig_name (i := 5) s_u_law_picture.nd rfl (by first | exact Or.inl rfl | exact Or.inr rfl))) (fun s1 h1 c1 l1 q1 => its_nil) (fun s1 h1 c1 l1 q1 => (ie_sub_ (Bd.blk (Bd.blk B s0 h0 _ _ q0) s1 h1 _ _ q1) T.tab (ie_v (i := 2) rfl (by first | exact Or.inl rfl | exact Or.inr (Or.inl rfl) | exact Or.inr (Or.inr rfl))) (ie_v (i := 5) rfl (by first | exact Or.inl rfl | exact Or.inr (Or.inl rfl) | exact Or.inr (Or.inr rfl)))))) ia_nil)))) (is_cons (is_set (i := 4) s_u_law_picture.nd rfl (by first | exact Or.inl rfl | exact Or.inr rfl) (ie_lst true ia_nil)) (is_cons (is_for B.own B.calm (ii_any (ie_v (i := 1) rfl (by first | exact Or.inl rfl | exact Or.inr (Or.inl rfl) | exact Or.inr (Or.inr rfl)))) (ig_name (i := 5) s_u_law_picture.nd rfl (by first | exact Or.inl rfl | exact Or.inr rfl)) (is_cons (is_asg (ie_sub_ B T.tab (ie_sub_ B T.tab (ie_v (i := 0) rfl (by first | exact Or.inl rfl | exact Or.inr (Or.inl rfl) | exact Or.inr (Or.inr rfl))) ie_str) (ie_v (i := 5) rfl (by first | exact Or.inl rfl | exact Or.inr (Or.inl rfl) | exact Or.inr (Or.inr rfl)))) (ig_seq B.calm (igs_cons (ig_name (i := 6) s_u_law_picture.nd rfl (by first | exact Or.inl rfl | exact Or.inr rfl)) (igs_cons (ig_name (i := 7) s_u_law_picture.nd rfl (by first | exact Or.inl rfl | exact Or.inr rfl)) (igs_cons (ig_name (i := 8) s_u_law_picture.nd rfl (by first | exact Or.inl rfl | exact Or.inr rfl)) igs_nil))))) (is_one (is_expr (ie_append (ie_v (i := 4) rfl (by first | exact Or.inl rfl | exact Or.inr (Or.inl rfl) | exact Or.inr (Or.inr rfl))) (ia_cons (ie_tup (ia_cons (ie_tuple (by exact rfl) T.b_tuple (ia_cons (ie_comp false B.calm s_u_law_picture.nd (own := [("y", 11)]) (ii_any (ie_v (i := 6) rfl (by first | exact Or.inl rfl | exact Or.inr (Or.inl rfl) | exact Or.inr (Or.inr rfl)))) (blkOk_by (N := ["store", "order", "numbers", "rows", "objects", "x", "links", "own", "mark", "number", "word", "y"]) (sc := defScope st_u_law_picture) (by decide +kernel)) (by decide) (fun s0 h0 c0 l0 q0 => (ig_name (i := 11) s_u_law_picture.nd rfl (by first | exact Or.inl rfl | exact Or.inr rfl))) (fun s0 h0 c0 l0 q0 => its_nil) (fun s0 h0 c0 l0 q0 => (ie_sub_ (Bd.blk B s0 h0 _ _ q0) T.tab (ie_v (i := 2) rfl (by first | exact Or.inl rfl | exact Or.inr (Or.inl rfl) | exact Or.inr (Or.inr rfl))) (ie_v (i := 11) rfl (by first | exact Or.inl rfl | exact Or.inr (Or.inl rfl) | exact Or.inr (Or.inr rfl)))))) ia_nil)) (ia_cons (ie_tuple (by exact rfl) T.b_tuple (ia_cons (ie_v (i := 7) rfl (by first | exact Or.inl rfl | exact Or.inr (Or.inl rfl) | exact Or.inr (Or.inr rfl))) ia_nil)) (ia_cons (ie_v (i := 8) rfl (by first | exact Or.inl rfl | exact Or.inr (Or.inl rfl) | exact Or.inr (Or.inr rfl))) ia_nil)))) ia_nil)))))) (is_one (is_ret (ie_tup (ia_cons (ie_sub_ B T.tab (ie_v (i := 3) rfl (by first | exact Or.inl rfl | exact Or.inr (Or.inl rfl) | exact Or.inr (Or.inr rfl))) ie_int) (ia_cons (ie_sub_ B T.tab (ie_v (i := 3) rfl (by first | exact Or.inl rfl | exact Or.inr (Or.inl rfl) | exact Or.inr (Or.inr rfl))) ie_int) (ia_cons (ie_sub_ B T.tab (ie_v (i := 3) rfl (by first | exact Or.inl rfl | exact Or.inr (Or.inl rfl) | exact Or.inr (Or.inr rfl))) ie_int) (ia_cons (ie_sub_ B T.tab (ie_v (i := 3) rfl (by first | exact Or.inl rfl | exact Or.inr (Or.inl rfl) | exact Or.inr (Or.inr rfl))) ie_int) (ia_cons (ie_tuple (by exact rfl) T.b_tuple (ia_cons (ie_v (i := 4) rfl (by first | exact Or.inl rfl | exact Or.inr (Or.inl rfl) | exact Or.inr (Or.inr rfl))) ia_nil)) ia_nil)))))))))))))
  exact z.pop
/-! ### _law_part -/
abbrev st_u_law_part : Stmt := top 28
theorem s_u_law_part : FnScope ["store", "r", "i", "kind", "x", "row"] ["store", "r", "i", "kind"] (defScope st_u_law_part) := ⟨rfl, rfl, rfl, by decide +kernel, rfl, by decide +kernel, by decide +kernel⟩
noncomputable def c_u_law_part (G : Glb) : SM :=
  seq (asgS (bin (sbU G.tab) (bin (sbU G.tab) (vE 0) (cE (.str "root"))) (vE 1)) (nmG 4)) (seq (asgS (ifE (asB (bin (isNU false) (vE 4) (cE .non))) (lstE false (nilA)) (bin (sbU G.tab) (bin (sbU G.tab) (bin (sbU G.tab) (vE 0) (cE (.str "objects"))) (vE 4)) (vE 3))) (nmG 5)) (retS (ifE (asB (bin ltU (vE 2) (callA (on1 lenU) (consA (vE 5) (nilA))))) (vE 5) (cE .non))))
noncomputable def f_u_law_part (G : Glb) : List U → IH → R U := fnR 6 4 (c_u_law_part G)
theorem g_u_law_part {P : Program} {w : World} {K : PySem.W.Frag} {mg : Str → Option Value} {base : Heap} {G : Glb} (T : Txt P w K mg G) {f : Addr} {fd : FuncData} (F : L2.Fun K "_law_part" "_law_part" st_u_law_part f fd) : FnG P w K mg base 1 f fd ["store", "r", "i", "kind"] (spI K 4 (f_u_law_part G)) := by
  have z : FnG P w K mg base 1 f fd ["store", "r", "i", "kind"] (spI K 4 (fnR 6 4 (c_u_law_part G))) := fn_n F s_u_law_part rfl rfl (b := c_u_law_part G) fun cd A out s H E B =>
    (is_cons (is_set (i := 4) s_u_law_part.nd rfl (by first | exact Or.inl rfl | exact Or.inr rfl) (ie_sub_ B T.tab (ie_sub_ B T.tab (ie_v (i := 0) rfl (by first | exact Or.inl rfl | exact Or.inr (Or.inl rfl) | exact Or.inr (Or.inr rfl))) ie_str) (ie_v (i := 1) rfl (by first | exact Or.inl rfl | exact Or.inr (Or.inl rfl) | exact Or.inr (Or.inr rfl))))) (is_cons (is_set (i := 5) s_u_law_part.nd rfl (by first | exact Or.inl rfl | exact Or.inr rfl) (ie_if (it_cmp op_isN isNU_noe isNU_ok (ie_v (i := 4) rfl (by first | exact Or.inl rfl | exact Or.inr (Or.inl rfl) | exact Or.inr (Or.inr rfl))) ie_non (nomark _)) (ie_lst false ia_nil) (ie_sub_ B T.tab (ie_sub_ B T.tab (ie_sub_ B T.tab (ie_v (i := 0) rfl (by first | exact Or.inl rfl | exact Or.inr (Or.inl rfl) | exact Or.inr (Or.inr rfl))) ie_str) (ie_v (i := 4) rfl (by first | exact Or.inl rfl | exact Or.inr (Or.inl rfl) | exact Or.inr (Or.inr rfl)))) (ie_v (i := 3) rfl (by first | exact Or.inl rfl | exact Or.inr (Or.inl rfl) | exact Or.inr (Or.inr rfl)))))) (is_one (is_ret (ie_if (it_cmp op_lt cmpU_noe cmpU_ok (ie_v (i := 2) rfl (by first | exact Or.inl rfl | exact Or.inr (Or.inl rfl) | exact Or.inr (Or.inr rfl))) (ie_len (by exact rfl) T.b_len (ia_cons (ie_v (i := 5) rfl (by first | exact Or.inl rfl | exact Or.inr (Or.inl rfl) | exact Or.inr (Or.inr rfl))) ia_nil)) (nomark _)) (ie_v (i := 5) rfl (by first | exact Or.inl rfl | exact Or.inr (Or.inl rfl) | exact Or.inr (Or.inr rfl))) ie_non)))))
  exact z
/-! ### _law_do_part -/
abbrev st_u_law_do_part : Stmt := top 31
theorem s_u_law_do_part : FnScope ["store", "deed", "r", "i", "row", "roots"] ["store", "deed"] (defScope st_u_law_do_part) := ⟨rfl, rfl, rfl, by decide +kernel, rfl, by decide +kernel, by decide +kernel⟩
noncomputable def c_u_law_do_part (G : Glb) : SM :=
  seq (asgS (ifE (asB (bin (eqU false) (bin (sbU G.tab) (vE 1) (cE (.int 0))) (cE (.str "follow")))) (tupE (consA (bin (sbU G.tab) (vE 1) (cE (.int 2))) (consA (bin (sbU G.tab) (vE 1) (cE (.int 3))) (nilA)))) (tupE (consA (bin (sbU G.tab) (vE 1) (cE (.int 1))) (consA (bin (sbU G.tab) (vE 1) (cE (.int 2))) (nilA))))) (seqG 2 (consG (nmG 2) (consG (nmG 3) (nilG))))) (seq (asgS (callF 4 (f_u_law_part G) (consA (vE 0) (consA (vE 2) (consA (vE 3) (consA (ifE (asB (bin (hasU false) (bin (sbU G.tab) (vE 1) (cE (.int 0))) (tupE (consA (cE (.str "link")) (consA (cE (.str "follow")) (nilA)))))) (cE (.int 0)) (cE (.int 1))) (nilA)))))) (nmG 4)) (seq (ifS (asB (bin (isNU false) (vE 4) (cE .non))) (retS (cE (.str "no"))) (nxS)) (seq (ifS (asB (bin (eqU false) (bin (sbU G.tab) (vE 1) (cE (.int 0))) (cE (.str "read")))) (retS (bin (sbU G.tab) (vE 4) (vE 3))) (nxS)) (seq (ifS (asB (bin (eqU false) (bin (sbU G.tab) (vE 1) (cE (.int 0))) (cE (.str "write")))) (asgS (bin (sbU G.tab) (vE 1) (cE (.int 3))) (subG (vE 4) (vE 3) putX)) (ifS (asB (bin (eqU false) (bin (sbU G.tab) (vE 1) (cE (.int 0))) (cE (.str "link")))) (asgS (bin (sbU G.tab) (bin (sbU G.tab) (vE 0) (cE (.str "root"))) (bin (sbU G.tab) (vE 1) (cE (.int 3)))) (subG (vE 4) (vE 3) putX)) (seq (asgS (bin (sbU G.tab) (vE 0) (cE (.str "root"))) (nmG 5)) (asgS (bin (sbU G.tab) (vE 4) (vE 3)) (subG (vE 5) (bin (sbU G.tab) (vE 1) (cE (.int 1))) putX))))) (retS (cE .non))))))
noncomputable def f_u_law_do_part (G : Glb) : List U → IH → R U := fnR 6 2 (c_u_law_do_part G)
theorem g_u_law_do_part {P : Program} {w : World} {K : PySem.W.Frag} {mg : Str → Option Value} {base : Heap} {G : Glb} (T : Txt P w K mg G) (C_u_law_part : Cal P w K mg base 1 "_law_part" 4 (f_u_law_part G)) {f : Addr} {fd : FuncData} (F : L2.Fun K "_law_do_part" "_law_do_part" st_u_law_do_part f fd) : FnG P w K mg base 2 f fd ["store", "deed"] (spI K 2 (f_u_law_do_part G)) := by
  have z : FnG P w K mg base 2 f fd ["store", "deed"] (spI K 2 (fnR 6 2 (c_u_law_do_part G))) := fn_n F s_u_law_do_part rfl rfl (b := c_u_law_do_part G) fun cd A out s H E B =>
    (is_cons (is_asg (ie_if (it_cmp (op_eqD B.u64) eqU_noe eqU_ok (ie_sub_ B T.tab (ie_v (i := 1) rfl (by first | exact Or.inl rfl | exact Or.inr (Or.inl rfl) | exact Or.inr (Or.inr rfl))) ie_int) ie_str (nomark _)) (ie_tup (ia_cons (ie_sub_ B T.tab (ie_v (i := 1) rfl (by first | exact Or.inl rfl | exact Or.inr (Or.inl rfl) | exact Or.inr (Or.inr rfl))) ie_int) (ia_cons (ie_sub_ B T.tab (ie_v (i := 1) rfl (by first | exact Or.inl rfl | exact Or.inr (Or.inl rfl) | exact Or.inr (Or.inr rfl))) ie_int) ia_nil))) (ie_tup (ia_cons (ie_sub_ B T.tab (ie_v (i := 1) rfl (by first | exact Or.inl rfl | exact Or.inr (Or.inl rfl) | exact Or.inr (Or.inr rfl))) ie_int) (ia_cons (ie_sub_ B T.tab (ie_v (i := 1) rfl (by first | exact Or.inl rfl | exact Or.inr (Or.inl rfl) | exact Or.inr (Or.inr rfl))) ie_int) ia_nil)))) (ig_seq B.calm (igs_cons (ig_name (i := 2) s_u_law_do_part.nd rfl (by first | exact Or.inl rfl | exact Or.inr rfl)) (igs_cons (ig_name (i := 3) s_u_law_do_part.nd rfl (by first | exact Or.inl rfl | exact Or.inr rfl)) igs_nil)))) (is_cons (is_set (i := 4) s_u_law_do_part.nd rfl (by first | exact Or.inl rfl | exact Or.inr rfl) (ie_call C_u_law_part B (by first | decide | exact Nat.le_refl _) (by exact rfl) (ia_cons (ie_v (i := 0) rfl (by first | exact Or.inl rfl | exact Or.inr (Or.inl rfl) | exact Or.inr (Or.inr rfl))) (ia_cons (ie_v (i := 2) rfl (by first | exact Or.inl rfl | exact Or.inr (Or.inl rfl) | exact Or.inr (Or.inr rfl))) (ia_cons (ie_v (i := 3) rfl (by first | exact Or.inl rfl | exact Or.inr (Or.inl rfl) | exact Or.inr (Or.inr rfl))) (ia_cons (ie_if (it_cmp (op_has B.u65) hasU_noe hasU_ok (ie_sub_ B T.tab (ie_v (i := 1) rfl (by first | exact Or.inl rfl | exact Or.inr (Or.inl rfl) | exact Or.inr (Or.inr rfl))) ie_int) (ie_tup (ia_cons ie_str (ia_cons ie_str ia_nil))) (by with_unfolding_all rfl)) ie_int ie_int) ia_nil)))))) (is_cons (is_if (it_cmp op_isN isNU_noe isNU_ok (ie_v (i := 4) rfl (by first | exact Or.inl rfl | exact Or.inr (Or.inl rfl) | exact Or.inr (Or.inr rfl))) ie_non (nomark _)) (is_one (is_ret ie_str)) is_nil) (is_cons (is_if (it_cmp (op_eqD B.u64) eqU_noe eqU_ok (ie_sub_ B T.tab (ie_v (i := 1) rfl (by first | exact Or.inl rfl | exact Or.inr (Or.inl rfl) | exact Or.inr (Or.inr rfl))) ie_int) ie_str (nomark _)) (is_one (is_ret (ie_sub_ B T.tab (ie_v (i := 4) rfl (by first | exact Or.inl rfl | exact Or.inr (Or.inl rfl) | exact Or.inr (Or.inr rfl))) (ie_v (i := 3) rfl (by first | exact Or.inl rfl | exact Or.inr (Or.inl rfl) | exact Or.inr (Or.inr rfl)))))) is_nil) (is_cons (is_if (it_cmp (op_eqD B.u64) eqU_noe eqU_ok (ie_sub_ B T.tab (ie_v (i := 1) rfl (by first | exact Or.inl rfl | exact Or.inr (Or.inl rfl) | exact Or.inr (Or.inr rfl))) ie_int) ie_str (nomark _)) (is_one (is_asg (ie_sub_ B T.tab (ie_v (i := 1) rfl (by first | exact Or.inl rfl | exact Or.inr (Or.inl rfl) | exact Or.inr (Or.inr rfl))) ie_int) (ig_sub B (ie_v (i := 4) rfl (by first | exact Or.inl rfl | exact Or.inr (Or.inl rfl) | exact Or.inr (Or.inr rfl))) (ie_v (i := 3) rfl (by first | exact Or.inl rfl | exact Or.inr (Or.inl rfl) | exact Or.inr (Or.inr rfl)))))) (is_one (is_if (it_cmp (op_eqD B.u64) eqU_noe eqU_ok (ie_sub_ B T.tab (ie_v (i := 1) rfl (by first | exact Or.inl rfl | exact Or.inr (Or.inl rfl) | exact Or.inr (Or.inr rfl))) ie_int) ie_str (nomark _)) (is_one (is_asg (ie_sub_ B T.tab (ie_sub_ B T.tab (ie_v (i := 0) rfl (by first | exact Or.inl rfl | exact Or.inr (Or.inl rfl) | exact Or.inr (Or.inr rfl))) ie_str) (ie_sub_ B T.tab (ie_v (i := 1) rfl (by first | exact Or.inl rfl | exact Or.inr (Or.inl rfl) | exact Or.inr (Or.inr rfl))) ie_int)) (ig_sub B (ie_v (i := 4) rfl (by first | exact Or.inl rfl | exact Or.inr (Or.inl rfl) | exact Or.inr (Or.inr rfl))) (ie_v (i := 3) rfl (by first | exact Or.inl rfl | exact Or.inr (Or.inl rfl) | exact Or.inr (Or.inr rfl)))))) (is_cons (is_set (i := 5) s_u_law_do_part.nd rfl (by first | exact Or.inl rfl | exact Or.inr rfl) (ie_sub_ B T.tab (ie_v (i := 0) rfl (by first | exact Or.inl rfl | exact Or.inr (Or.inl rfl) | exact Or.inr (Or.inr rfl))) ie_str)) (is_one (is_asg (ie_sub_ B T.tab (ie_v (i := 4) rfl (by first | exact Or.inl rfl | exact Or.inr (Or.inl rfl) | exact Or.inr (Or.inr rfl))) (ie_v (i := 3) rfl (by first | exact Or.inl rfl | exact Or.inr (Or.inl rfl) | exact Or.inr (Or.inr rfl)))) (ig_sub B (ie_v (i := 5) rfl (by first | exact Or.inl rfl | exact Or.inr (Or.inl rfl) | exact Or.inr (Or.inr rfl))) (ie_sub_ B T.tab (ie_v (i := 1) rfl (by first | exact Or.inl rfl | exact Or.inr (Or.inl rfl) | exact Or.inr (Or.inr rfl))) ie_int)))))))) (is_one (is_ret ie_non)))))))
  exact z
/-! ### _law_gather -/
abbrev st_u_law_gather : Stmt := top 29
theorem s_u_law_gather : FnScope ["store", "reached", "lost", "x"] ["store"] (defScope st_u_law_gather) := ⟨rfl, rfl, rfl, by decide +kernel, rfl, by decide +kernel, by decide +kernel⟩
noncomputable def c_u_law_gather (G : Glb) : SM :=
  seq (asgS (callF 2 (f_u_law_led G) (consA (vE 0) (consA (lstE false (consA (cE (.str "root")) (consA (cE (.str "queue")) (nilA)))) (nilA)))) (nmG 1)) (seq (asgS (compE true [3] (walkA (bin (sbU G.tab) (vE 0) (cE (.str "weak")))) (nmG 3) (yesB) (ifE (asB (bin (hasU false) (vE 3) (vE 1))) (vE 3) (cE .non))) (subG (vE 0) (cE (.str "weak")) putX)) (seq (asgS (compE false [3] (walkA (bin (sbU G.tab) (vE 0) (cE (.str "wish")))) (nmG 3) (asB (bin (hasU true) (vE 3) (vE 1))) (vE 3)) (nmG 2)) (seq (asgS (compE true [3] (walkA (bin (sbU G.tab) (vE 0) (cE (.str "wish")))) (nmG 3) (asB (bin (hasU false) (vE 3) (vE 1))) (vE 3)) (subG (vE 0) (cE (.str "wish")) putX)) (seq (asgS (bin (addU true) (bin (sbU G.tab) (vE 0) (cE (.str "queue"))) (vE 2)) (subG (vE 0) (cE (.str "queue")) putX)) (retS (callA (on1 lenU) (consA (vE 2) (nilA))))))))
noncomputable def f_u_law_gather (G : Glb) : List U → IH → R U := fnR 4 1 (c_u_law_gather G)
theorem g_u_law_gather {P : Program} {w : World} {K : PySem.W.Frag} {mg : Str → Option Value} {base : Heap} {G : Glb} (T : Txt P w K mg G) (C_u_law_led : Cal P w K mg base 1 "_law_led" 2 (f_u_law_led G)) {f : Addr} {fd : FuncData} (F : L2.Fun K "_law_gather" "_law_gather" st_u_law_gather f fd) : FnG P w K mg base 2 f fd ["store"] (spI K 1 (f_u_law_gather G)) := by
  have z : FnG P w K mg base 2 f fd ["store"] (spI K 1 (fnR 4 1 (c_u_law_gather G))) := fn_n F s_u_law_gather rfl rfl (b := c_u_law_gather G) fun cd A out s H E B =>
    (is_cons (is_set (i := 1) s_u_law_gather.nd rfl (by first | exact Or.inl rfl | exact Or.inr rfl) (ie_call C_u_law_led B (by first | decide | exact Nat.le_refl _) (by exact rfl) (ia_cons (ie_v (i := 0) rfl (by first | exact Or.inl rfl | exact Or.inr (Or.inl rfl) | exact Or.inr (Or.inr rfl))) (ia_cons (ie_lst false (ia_cons ie_str (ia_cons ie_str ia_nil))) ia_nil)))) (is_cons (is_asg (ie_comp true B.calm s_u_law_gather.nd (own := [("x", 3)]) (ii_any (ie_sub_ B T.tab (ie_v (i := 0) rfl (by first | exact Or.inl rfl | exact Or.inr (Or.inl rfl) | exact Or.inr (Or.inr rfl))) ie_str)) (blkOk_by (N := ["store", "reached", "lost", "x"]) (sc := defScope st_u_law_gather) (by decide +kernel)) (by decide) (fun s0 h0 c0 l0 q0 => (ig_name (i := 3) s_u_law_gather.nd rfl (by first | exact Or.inl rfl | exact Or.inr rfl))) (fun s0 h0 c0 l0 q0 => its_nil) (fun s0 h0 c0 l0 q0 => (ie_if (it_cmp (op_has (Bd.blk B s0 h0 _ _ q0).u65) hasU_noe hasU_ok (ie_v (i := 3) rfl (by first | exact Or.inl rfl | exact Or.inr (Or.inl rfl) | exact Or.inr (Or.inr rfl))) (ie_v (i := 1) rfl (by first | exact Or.inl rfl | exact Or.inr (Or.inl rfl) | exact Or.inr (Or.inr rfl))) (by with_unfolding_all rfl)) (ie_v (i := 3) rfl (by first | exact Or.inl rfl | exact Or.inr (Or.inl rfl) | exact Or.inr (Or.inr rfl))) ie_non))) (ig_sub B (ie_v (i := 0) rfl (by first | exact Or.inl rfl | exact Or.inr (Or.inl rfl) | exact Or.inr (Or.inr rfl))) ie_str)) (is_cons (is_setComp false (i := 2) B.calm s_u_law_gather.nd rfl rfl (sw_true rfl rfl (by decide) (by decide +kernel)) (own := [("x", 3)]) (ii_any (ie_sub_ B T.tab (ie_v (i := 0) rfl (by first | exact Or.inl rfl | exact Or.inr (Or.inl rfl) | exact Or.inr (Or.inr rfl))) ie_str)) (blkOk_by (N := ["store", "reached", "lost", "x"]) (sc := defScope st_u_law_gather) (by decide +kernel)) (by decide) (fun s0 h0 c0 l0 q0 => (ig_name (i := 3) s_u_law_gather.nd rfl (by first | exact Or.inl rfl | exact Or.inr rfl))) (fun s0 h0 c0 l0 q0 => (its_one (it_cmp (op_hasNot (Bd.blk B s0 h0 _ _ q0).u65) hasU_noe hasU_ok (ie_v (i := 3) rfl (by first | exact Or.inl rfl | exact Or.inr (Or.inl rfl) | exact Or.inr (Or.inr rfl))) (ie_v (i := 1) rfl (by first | exact Or.inl rfl | exact Or.inr (Or.inl rfl) | exact Or.inr (Or.inr rfl))) (by with_unfolding_all rfl)))) (fun s0 h0 c0 l0 q0 => (ie_v (i := 3) rfl (by first | exact Or.inl rfl | exact Or.inr (Or.inl rfl) | exact Or.inr (Or.inr rfl))))) (is_cons (is_asg (ie_comp true B.calm s_u_law_gather.nd (own := [("x", 3)]) (ii_any (ie_sub_ B T.tab (ie_v (i := 0) rfl (by first | exact Or.inl rfl | exact Or.inr (Or.inl rfl) | exact Or.inr (Or.inr rfl))) ie_str)) (blkOk_by (N := ["store", "reached", "lost", "x"]) (sc := defScope st_u_law_gather) (by decide +kernel)) (by decide) (fun s0 h0 c0 l0 q0 => (ig_name (i := 3) s_u_law_gather.nd rfl (by first | exact Or.inl rfl | exact Or.inr rfl))) (fun s0 h0 c0 l0 q0 => (its_one (it_cmp (op_has (Bd.blk B s0 h0 _ _ q0).u65) hasU_noe hasU_ok (ie_v (i := 3) rfl (by first | exact Or.inl rfl | exact Or.inr (Or.inl rfl) | exact Or.inr (Or.inr rfl))) (ie_v (i := 1) rfl (by first | exact Or.inl rfl | exact Or.inr (Or.inl rfl) | exact Or.inr (Or.inr rfl))) (by with_unfolding_all rfl)))) (fun s0 h0 c0 l0 q0 => (ie_v (i := 3) rfl (by first | exact Or.inl rfl | exact Or.inr (Or.inl rfl) | exact Or.inr (Or.inr rfl))))) (ig_sub B (ie_v (i := 0) rfl (by first | exact Or.inl rfl | exact Or.inr (Or.inl rfl) | exact Or.inr (Or.inr rfl))) ie_str)) (is_cons (is_asg (ie_add true (ie_sub_ B T.tab (ie_v (i := 0) rfl (by first | exact Or.inl rfl | exact Or.inr (Or.inl rfl) | exact Or.inr (Or.inr rfl))) ie_str) (ie_v (i := 2) rfl (by first | exact Or.inl rfl | exact Or.inr (Or.inl rfl) | exact Or.inr (Or.inr rfl)))) (ig_sub B (ie_v (i := 0) rfl (by first | exact Or.inl rfl | exact Or.inr (Or.inl rfl) | exact Or.inr (Or.inr rfl))) ie_str)) (is_one (is_ret (ie_len (by exact rfl) T.b_len (ia_cons (ie_v (i := 2) rfl (by first | exact Or.inl rfl | exact Or.inr (Or.inl rfl) | exact Or.inr (Or.inr rfl))) ia_nil)))))))))
  exact z
/-! ### _law_wish -/
abbrev st_u_law_wish : Stmt := top 32
theorem s_u_law_wish : FnScope ["store", "r", "x", "own"] ["store", "r"] (defScope st_u_law_wish) := ⟨rfl, rfl, rfl, by decide +kernel, rfl, by decide +kernel, by decide +kernel⟩
noncomputable def c_u_law_wish (G : Glb) : SM :=
  seq (asgS (bin (sbU G.tab) (bin (sbU G.tab) (vE 0) (cE (.str "root"))) (vE 1)) (nmG 2)) (seq (ifS (asB (bin (isNU false) (vE 2) (cE .non))) (retS (cE (.str "no"))) (nxS)) (seq (asgS (bin (sbU G.tab) (bin (sbU G.tab) (vE 0) (cE (.str "objects"))) (vE 2)) (nmG 3)) (seq (ifS (notB (tst (bin (sbU G.tab) (vE 3) (cE (.int 2))))) (seq (asgS (cE (.bl true)) (subG (vE 3) (cE (.int 2)) putX)) (exprS (bmE appU (bin (sbU G.tab) (vE 0) (cE (.str "wish"))) (consA (vE 2) (nilA))))) (nxS)) (retS (cE .non)))))
noncomputable def f_u_law_wish (G : Glb) : List U → IH → R U := fnR 4 2 (c_u_law_wish G)
theorem g_u_law_wish {P : Program} {w : World} {K : PySem.W.Frag} {mg : Str → Option Value} {base : Heap} {G : Glb} (T : Txt P w K mg G) {f : Addr} {fd : FuncData} (F : L2.Fun K "_law_wish" "_law_wish" st_u_law_wish f fd) : FnG P w K mg base 1 f fd ["store", "r"] (spI K 2 (f_u_law_wish G)) := by
  have z : FnG P w K mg base 1 f fd ["store", "r"] (spI K 2 (fnR 4 2 (c_u_law_wish G))) := fn_n F s_u_law_wish rfl rfl (b := c_u_law_wish G) fun cd A out s H E B =>
    (is_cons (is_set (i := 2) s_u_law_wish.nd rfl (by first | exact Or.inl rfl | exact Or.inr rfl) (ie_sub_ B T.tab (ie_sub_ B T.tab (ie_v (i := 0) rfl (by first | exact Or.inl rfl | exact Or.inr (Or.inl rfl) | exact Or.inr (Or.inr rfl))) ie_str) (ie_v (i := 1) rfl (by first | exact Or.inl rfl | exact Or.inr (Or.inl rfl) | exact Or.inr (Or.inr rfl))))) (is_cons (is_if (it_cmp op_isN isNU_noe isNU_ok (ie_v (i := 2) rfl (by first | exact Or.inl rfl | exact Or.inr (Or.inl rfl) | exact Or.inr (Or.inr rfl))) ie_non (nomark _)) (is_one (is_ret ie_str)) is_nil) (is_cons (is_set (i := 3) s_u_law_wish.nd rfl (by first | exact Or.inl rfl | exact Or.inr rfl) (ie_sub_ B T.tab (ie_sub_ B T.tab (ie_v (i := 0) rfl (by first | exact Or.inl rfl | exact Or.inr (Or.inl rfl) | exact Or.inr (Or.inr rfl))) ie_str) (ie_v (i := 2) rfl (by first | exact Or.inl rfl | exact Or.inr (Or.inl rfl) | exact Or.inr (Or.inr rfl))))) (is_cons (is_if (it_not (it_tru (ie_sub_ B T.tab (ie_v (i := 3) rfl (by first | exact Or.inl rfl | exact Or.inr (Or.inl rfl) | exact Or.inr (Or.inr rfl))) ie_int))) (is_cons (is_asg ie_bl (ig_sub B (ie_v (i := 3) rfl (by first | exact Or.inl rfl | exact Or.inr (Or.inl rfl) | exact Or.inr (Or.inr rfl))) ie_int)) (is_one (is_expr (ie_append (ie_sub_ B T.tab (ie_v (i := 0) rfl (by first | exact Or.inl rfl | exact Or.inr (Or.inl rfl) | exact Or.inr (Or.inr rfl))) ie_str) (ia_cons (ie_v (i := 2) rfl (by first | exact Or.inl rfl | exact Or.inr (Or.inl rfl) | exact Or.inr (Or.inr rfl))) ia_nil))))) is_nil) (is_one (is_ret ie_non))))))
  exact z
/-! ### _law_do -/
abbrev st_u_law_do : Stmt := top 30
theorem s_u_law_do : FnScope ["store", "deed", "word", "roots", "own", "weaks"] ["store", "deed"] (defScope st_u_law_do) := ⟨rfl, rfl, rfl, by decide +kernel, rfl, by decide +kernel, by decide +kernel⟩
noncomputable def c_u_law_do (G : Glb) : SM :=
  seq (par2 2 3 (consA (bin (sbU G.tab) (vE 1) (cE (.int 0))) (consA (bin (sbU G.tab) (vE 0) (cE (.str "root"))) (nilA)))) (seq (ifS (asB (bin (hasU false) (vE 2) (tupE (consA (cE (.str "link")) (consA (cE (.str "read")) (consA (cE (.str "write")) (consA (cE (.str "follow")) (nilA)))))))) (retS (callF 2 (f_u_law_do_part G) (consA (vE 0) (consA (vE 1) (nilA))))) (nxS)) (seq (ifS (asB (bin (eqU false) (vE 2) (cE (.str "gather")))) (retS (callF 1 (f_u_law_gather G) (consA (vE 0) (nilA)))) (nxS)) (seq (ifS (asB (bin (eqU false) (vE 2) (cE (.str "new")))) (seq (exprS (bmE appU (bin (sbU G.tab) (vE 0) (cE (.str "objects"))) (consA (lstE true (consA (bin (mulU true) (lstE false (consA (cE .non) (nilA))) (bin (sbU G.tab) (vE 1) (cE (.int 2)))) (consA (bin (mulU true) (lstE false (consA (cE (.int 0)) (nilA))) (bin (sbU G.tab) (vE 1) (cE (.int 3)))) (consA (cE (.bl false)) (nilA))))) (nilA)))) (asgS (bin subU (callA (on1 lenU) (consA (bin (sbU G.tab) (vE 0) (cE (.str "objects"))) (nilA))) (cE (.int 1))) (subG (vE 3) (bin (sbU G.tab) (vE 1) (cE (.int 1))) putX))) (ifS (asB (bin (eqU false) (vE 2) (cE (.str "copy")))) (asgS (bin (sbU G.tab) (vE 3) (bin (sbU G.tab) (vE 1) (cE (.int 2)))) (subG (vE 3) (bin (sbU G.tab) (vE 1) (cE (.int 1))) putX)) (ifS (asB (bin (eqU false) (vE 2) (cE (.str "clear")))) (asgS (cE .non) (subG (vE 3) (bin (sbU G.tab) (vE 1) (cE (.int 1))) putX)) (ifS (asB (bin (eqU false) (vE 2) (cE (.str "same")))) (retS (bin (eqU false) (bin (sbU G.tab) (vE 3) (bin (sbU G.tab) (vE 1) (cE (.int 1)))) (bin (sbU G.tab) (vE 3) (bin (sbU G.tab) (vE 1) (cE (.int 2)))))) (ifS (asB (bin (eqU false) (vE 2) (cE (.str "shape")))) (seq (asgS (ifE (asB (bin (isNU false) (bin (sbU G.tab) (vE 3) (bin (sbU G.tab) (vE 1) (cE (.int 1)))) (cE .non))) (cE .non) (bin (sbU G.tab) (bin (sbU G.tab) (vE 0) (cE (.str "objects"))) (bin (sbU G.tab) (vE 3) (bin (sbU G.tab) (vE 1) (cE (.int 1)))))) (nmG 4)) (retS (ifE (asB (bin (isNU false) (vE 4) (cE .non))) (cE .non) (tupE (consA (callA (on1 lenU) (consA (bin (sbU G.tab) (vE 4) (cE (.int 0))) (nilA))) (consA (callA (on1 lenU) (consA (bin (sbU G.tab) (vE 4) (cE (.int 1))) (nilA))) (nilA))))))) (ifS (asB (bin (eqU false) (vE 2) (cE (.str "weak")))) (seq (asgS (bin (sbU G.tab) (vE 0) (cE (.str "weak"))) (nmG 5)) (asgS (bin (sbU G.tab) (vE 3) (bin (sbU G.tab) (vE 1) (cE (.int 2)))) (subG (vE 5) (bin (sbU G.tab) (vE 1) (cE (.int 1))) putX))) (ifS (asB (bin (eqU false) (vE 2) (cE (.str "look")))) (asgS (bin (sbU G.tab) (bin (sbU G.tab) (vE 0) (cE (.str "weak"))) (bin (sbU G.tab) (vE 1) (cE (.int 2)))) (subG (vE 3) (bin (sbU G.tab) (vE 1) (cE (.int 1))) putX)) (ifS (asB (bin (eqU false) (vE 2) (cE (.str "next")))) (seq (asgS (ifE (asB (bin (eqU true) (bin (sbU G.tab) (vE 0) (cE (.str "queue"))) (lstE false (nilA)))) (bin (sbU G.tab) (bin (sbU G.tab) (vE 0) (cE (.str "queue"))) (cE (.int 0))) (cE .non)) (subG (vE 3) (bin (sbU G.tab) (vE 1) (cE (.int 1))) putX)) (asgS (slE true (bin (sbU G.tab) (vE 0) (cE (.str "queue"))) (someP (cE (.int 1))) (noP)) (subG (vE 0) (cE (.str "queue")) putX))) (retS (callF 2 (f_u_law_wish G) (consA (vE 0) (consA (bin (sbU G.tab) (vE 1) (cE (.int 1))) (nilA))))))))))))) (retS (cE .non)))))
noncomputable def f_u_law_do (G : Glb) : List U → IH → R U := fnR 6 2 (c_u_law_do G)
theorem g_u_law_do {P : Program} {w : World} {K : PySem.W.Frag} {mg : Str → Option Value} {base : Heap} {G : Glb} (T : Txt P w K mg G) (C_u_law_do_part : Cal P w K mg base 2 "_law_do_part" 2 (f_u_law_do_part G)) (C_u_law_gather : Cal P w K mg base 2 "_law_gather" 1 (f_u_law_gather G)) (C_u_law_wish : Cal P w K mg base 1 "_law_wish" 2 (f_u_law_wish G)) {f : Addr} {fd : FuncData} (F : L2.Fun K "_law_do" "_law_do" st_u_law_do f fd) : FnG P w K mg base 3 f fd ["store", "deed"] (spI K 2 (f_u_law_do G)) := by
  have z : FnG P w K mg base 3 f fd ["store", "deed"] (spI K 2 (fnR 6 2 (c_u_law_do G))) := fn_n F s_u_law_do rfl rfl (b := c_u_law_do G) fun cd A out s H E B =>
    (is_cons (is_par (i := 2) (j := 3) B.calm s_u_law_do.nd rfl rfl (by decide) rfl rfl (ia_cons (ie_sub_ B T.tab (ie_v (i := 1) rfl (by first | exact Or.inl rfl | exact Or.inr (Or.inl rfl) | exact Or.inr (Or.inr rfl))) ie_int) (ia_cons (ie_sub_ B T.tab (ie_v (i := 0) rfl (by first | exact Or.inl rfl | exact Or.inr (Or.inl rfl) | exact Or.inr (Or.inr rfl))) ie_str) ia_nil)) (by with_unfolding_all rfl)) (is_cons (is_if (it_cmp (op_has B.u65) hasU_noe hasU_ok (ie_v (i := 2) rfl (by first | exact Or.inl rfl | exact Or.inr (Or.inl rfl) | exact Or.inr (Or.inr rfl))) (ie_tup (ia_cons ie_str (ia_cons ie_str (ia_cons ie_str (ia_cons ie_str ia_nil))))) (by with_unfolding_all rfl)) (is_one (is_ret (ie_call C_u_law_do_part B (by first | decide | exact Nat.le_refl _) (by exact rfl) (ia_cons (ie_v (i := 0) rfl (by first | exact Or.inl rfl | exact Or.inr (Or.inl rfl) | exact Or.inr (Or.inr rfl))) (ia_cons (ie_v (i := 1) rfl (by first | exact Or.inl rfl | exact Or.inr (Or.inl rfl) | exact Or.inr (Or.inr rfl))) ia_nil))))) is_nil) (is_cons (is_if (it_cmp (op_eqD B.u64) eqU_noe eqU_ok (ie_v (i := 2) rfl (by first | exact Or.inl rfl | exact Or.inr (Or.inl rfl) | exact Or.inr (Or.inr rfl))) ie_str (nomark _)) (is_one (is_ret (ie_call C_u_law_gather B (by first | decide | exact Nat.le_refl _) (by exact rfl) (ia_cons (ie_v (i := 0) rfl (by first | exact Or.inl rfl | exact Or.inr (Or.inl rfl) | exact Or.inr (Or.inr rfl))) ia_nil)))) is_nil) (is_cons (is_if (it_cmp (op_eqD B.u64) eqU_noe eqU_ok (ie_v (i := 2) rfl (by first | exact Or.inl rfl | exact Or.inr (Or.inl rfl) | exact Or.inr (Or.inr rfl))) ie_str (nomark _)) (is_cons (is_expr (ie_append (ie_sub_ B T.tab (ie_v (i := 0) rfl (by first | exact Or.inl rfl | exact Or.inr (Or.inl rfl) | exact Or.inr (Or.inr rfl))) ie_str) (ia_cons (ie_lst true (ia_cons (ie_mul true (ie_lst false (ia_cons ie_non ia_nil)) (ie_sub_ B T.tab (ie_v (i := 1) rfl (by first | exact Or.inl rfl | exact Or.inr (Or.inl rfl) | exact Or.inr (Or.inr rfl))) ie_int)) (ia_cons (ie_mul true (ie_lst false (ia_cons ie_int ia_nil)) (ie_sub_ B T.tab (ie_v (i := 1) rfl (by first | exact Or.inl rfl | exact Or.inr (Or.inl rfl) | exact Or.inr (Or.inr rfl))) ie_int)) (ia_cons ie_bl ia_nil)))) ia_nil))) (is_one (is_asg (ie_sub (ie_len (by exact rfl) T.b_len (ia_cons (ie_sub_ B T.tab (ie_v (i := 0) rfl (by first | exact Or.inl rfl | exact Or.inr (Or.inl rfl) | exact Or.inr (Or.inr rfl))) ie_str) ia_nil)) ie_int) (ig_sub B (ie_v (i := 3) rfl (by first | exact Or.inl rfl | exact Or.inr (Or.inl rfl) | exact Or.inr (Or.inr rfl))) (ie_sub_ B T.tab (ie_v (i := 1) rfl (by first | exact Or.inl rfl | exact Or.inr (Or.inl rfl) | exact Or.inr (Or.inr rfl))) ie_int))))) (is_one (is_if (it_cmp (op_eqD B.u64) eqU_noe eqU_ok (ie_v (i := 2) rfl (by first | exact Or.inl rfl | exact Or.inr (Or.inl rfl) | exact Or.inr (Or.inr rfl))) ie_str (nomark _)) (is_one (is_asg (ie_sub_ B T.tab (ie_v (i := 3) rfl (by first | exact Or.inl rfl | exact Or.inr (Or.inl rfl) | exact Or.inr (Or.inr rfl))) (ie_sub_ B T.tab (ie_v (i := 1) rfl (by first | exact Or.inl rfl | exact Or.inr (Or.inl rfl) | exact Or.inr (Or.inr rfl))) ie_int)) (ig_sub B (ie_v (i := 3) rfl (by first | exact Or.inl rfl | exact Or.inr (Or.inl rfl) | exact Or.inr (Or.inr rfl))) (ie_sub_ B T.tab (ie_v (i := 1) rfl (by first | exact Or.inl rfl | exact Or.inr (Or.inl rfl) | exact Or.inr (Or.inr rfl))) ie_int)))) (is_one (is_if (it_cmp (op_eqD B.u64) eqU_noe eqU_ok (ie_v (i := 2) rfl (by first | exact Or.inl rfl | exact Or.inr (Or.inl rfl) | exact Or.inr (Or.inr rfl))) ie_str (nomark _)) (is_one (is_asg ie_non (ig_sub B (ie_v (i := 3) rfl (by first | exact Or.inl rfl | exact Or.inr (Or.inl rfl) | exact Or.inr (Or.inr rfl))) (ie_sub_ B T.tab (ie_v (i := 1) rfl (by first | exact Or.inl rfl | exact Or.inr (Or.inl rfl) | exact Or.inr (Or.inr rfl))) ie_int)))) (is_one (is_if (it_cmp (op_eqD B.u64) eqU_noe eqU_ok (ie_v (i := 2) rfl (by first | exact Or.inl rfl | exact Or.inr (Or.inl rfl) | exact Or.inr (Or.inr rfl))) ie_str (nomark _)) (is_one (is_ret (ie_cmp (op_eqD B.u64) eqU_noe eqU_ok (ie_sub_ B T.tab (ie_v (i := 3) rfl (by first | exact Or.inl rfl | exact Or.inr (Or.inl rfl) | exact Or.inr (Or.inr rfl))) (ie_sub_ B T.tab (ie_v (i := 1) rfl (by first | exact Or.inl rfl | exact Or.inr (Or.inl rfl) | exact Or.inr (Or.inr rfl))) ie_int)) (ie_sub_ B T.tab (ie_v (i := 3) rfl (by first | exact Or.inl rfl | exact Or.inr (Or.inl rfl) | exact Or.inr (Or.inr rfl))) (ie_sub_ B T.tab (ie_v (i := 1) rfl (by first | exact Or.inl rfl | exact Or.inr (Or.inl rfl) | exact Or.inr (Or.inr rfl))) ie_int)) (nomark _)))) (is_one (is_if (it_cmp (op_eqD B.u64) eqU_noe eqU_ok (ie_v (i := 2) rfl (by first | exact Or.inl rfl | exact Or.inr (Or.inl rfl) | exact Or.inr (Or.inr rfl))) ie_str (nomark _)) (is_cons (is_set (i := 4) s_u_law_do.nd rfl (by first | exact Or.inl rfl | exact Or.inr rfl) (ie_if (it_cmp op_isN isNU_noe isNU_ok (ie_sub_ B T.tab (ie_v (i := 3) rfl (by first | exact Or.inl rfl | exact Or.inr (Or.inl rfl) | exact Or.inr (Or.inr rfl))) (ie_sub_ B T.tab (ie_v (i := 1) rfl (by first | exact Or.inl rfl | exact Or.inr (Or.inl rfl) | exact Or.inr (Or.inr rfl))) ie_int)) ie_non (nomark _)) ie_non (ie_sub_ B T.tab (ie_sub_ B T.tab (ie_v (i := 0) rfl (by first | exact Or.inl rfl | exact Or.inr (Or.inl rfl) | exact Or.inr (Or.inr rfl))) ie_str) (ie_sub_ B T.tab (ie_v (i := 3) rfl (by first | exact Or.inl rfl | exact Or.inr (Or.inl rfl) | exact Or.inr (Or.inr rfl))) (ie_sub_ B T.tab (ie_v (i := 1) rfl (by first | exact Or.inl rfl | exact Or.inr (Or.inl rfl) | exact Or.inr (Or.inr rfl))) ie_int))))) (is_one (is_ret (ie_if (it_cmp op_isN isNU_noe isNU_ok (ie_v (i := 4) rfl (by first | exact Or.inl rfl | exact Or.inr (Or.inl rfl) | exact Or.inr (Or.inr rfl))) ie_non (nomark _)) ie_non (ie_tup (ia_cons (ie_len (by exact rfl) T.b_len (ia_cons (ie_sub_ B T.tab (ie_v (i := 4) rfl (by first | exact Or.inl rfl | exact Or.inr (Or.inl rfl) | exact Or.inr (Or.inr rfl))) ie_int) ia_nil)) (ia_cons (ie_len (by exact rfl) T.b_len (ia_cons (ie_sub_ B T.tab (ie_v (i := 4) rfl (by first | exact Or.inl rfl | exact Or.inr (Or.inl rfl) | exact Or.inr (Or.inr rfl))) ie_int) ia_nil)) ia_nil))))))) (is_one (is_if (it_cmp (op_eqD B.u64) eqU_noe eqU_ok (ie_v (i := 2) rfl (by first | exact Or.inl rfl | exact Or.inr (Or.inl rfl) | exact Or.inr (Or.inr rfl))) ie_str (nomark _)) (is_cons (is_set (i := 5) s_u_law_do.nd rfl (by first | exact Or.inl rfl | exact Or.inr rfl) (ie_sub_ B T.tab (ie_v (i := 0) rfl (by first | exact Or.inl rfl | exact Or.inr (Or.inl rfl) | exact Or.inr (Or.inr rfl))) ie_str)) (is_one (is_asg (ie_sub_ B T.tab (ie_v (i := 3) rfl (by first | exact Or.inl rfl | exact Or.inr (Or.inl rfl) | exact Or.inr (Or.inr rfl))) (ie_sub_ B T.tab (ie_v (i := 1) rfl (by first | exact Or.inl rfl | exact Or.inr (Or.inl rfl) | exact Or.inr (Or.inr rfl))) ie_int)) (ig_sub B (ie_v (i := 5) rfl (by first | exact Or.inl rfl | exact Or.inr (Or.inl rfl) | exact Or.inr (Or.inr rfl))) (ie_sub_ B T.tab (ie_v (i := 1) rfl (by first | exact Or.inl rfl | exact Or.inr (Or.inl rfl) | exact Or.inr (Or.inr rfl))) ie_int))))) (is_one (is_if (it_cmp (op_eqD B.u64) eqU_noe eqU_ok (ie_v (i := 2) rfl (by first | exact Or.inl rfl | exact Or.inr (Or.inl rfl) | exact Or.inr (Or.inr rfl))) ie_str (nomark _)) (is_one (is_asg (ie_sub_ B T.tab (ie_sub_ B T.tab (ie_v (i := 0) rfl (by first | exact Or.inl rfl | exact Or.inr (Or.inl rfl) | exact Or.inr (Or.inr rfl))) ie_str) (ie_sub_ B T.tab (ie_v (i := 1) rfl (by first | exact Or.inl rfl | exact Or.inr (Or.inl rfl) | exact Or.inr (Or.inr rfl))) ie_int)) (ig_sub B (ie_v (i := 3) rfl (by first | exact Or.inl rfl | exact Or.inr (Or.inl rfl) | exact Or.inr (Or.inr rfl))) (ie_sub_ B T.tab (ie_v (i := 1) rfl (by first | exact Or.inl rfl | exact Or.inr (Or.inl rfl) | exact Or.inr (Or.inr rfl))) ie_int)))) (is_one (is_if (it_cmp (op_eqD B.u64) eqU_noe eqU_ok (ie_v (i := 2) rfl (by first | exact Or.inl rfl | exact Or.inr (Or.inl rfl) | exact Or.inr (Or.inr rfl))) ie_str (nomark _)) (is_cons (is_asg (ie_if (it_cmp (op_neD B.u64) eqU_noe neU_ok (ie_sub_ B T.tab (ie_v (i := 0) rfl (by first | exact Or.inl rfl | exact Or.inr (Or.inl rfl) | exact Or.inr (Or.inr rfl))) ie_str) (ie_lst false ia_nil) (nomark _)) (ie_sub_ B T.tab (ie_sub_ B T.tab (ie_v (i := 0) rfl (by first | exact Or.inl rfl | exact Or.inr (Or.inl rfl) | exact Or.inr (Or.inr rfl))) ie_str) ie_int) ie_non) (ig_sub B (ie_v (i := 3) rfl (by first | exact Or.inl rfl | exact Or.inr (Or.inl rfl) | exact Or.inr (Or.inr rfl))) (ie_sub_ B T.tab (ie_v (i := 1) rfl (by first | exact Or.inl rfl | exact Or.inr (Or.inl rfl) | exact Or.inr (Or.inr rfl))) ie_int))) (is_one (is_asg (ie_sl true (ie_sub_ B T.tab (ie_v (i := 0) rfl (by first | exact Or.inl rfl | exact Or.inr (Or.inl rfl) | exact Or.inr (Or.inr rfl))) ie_str) (io_some ie_int) io_none) (ig_sub B (ie_v (i := 0) rfl (by first | exact Or.inl rfl | exact Or.inr (Or.inl rfl) | exact Or.inr (Or.inr rfl))) ie_str)))) (is_one (is_ret (ie_call C_u_law_wish B (by first | decide | exact Nat.le_refl _) (by exact rfl) (ia_cons (ie_v (i := 0) rfl (by first | exact Or.inl rfl | exact Or.inr (Or.inl rfl) | exact Or.inr (Or.inr rfl))) (ia_cons (ie_sub_ B T.tab (ie_v (i := 1) rfl (by first | exact Or.inl rfl | exact Or.inr (Or.inl rfl) | exact Or.inr (Or.inr rfl))) ie_int) ia_nil)))))))))))))))))))) (is_one (is_ret ie_non))))))
  exact z
/-! ### _law_run -/
abbrev st_u_law_run : Stmt := top 34
theorem s_u_law_run : FnScope ["program", "store", "found", "deed"] ["program"] (defScope st_u_law_run) := ⟨rfl, rfl, rfl, by decide +kernel, rfl, by decide +kernel, by decide +kernel⟩
noncomputable def c_u_law_run (G : Glb) : SM :=
  seq (asgS (callF 1 (f_u_law_store G) (consA (bin (sbU G.tab) (vE 0) (cE (.int 0))) (nilA))) (nmG 1)) (seq (asgS (callA (on1 tupleU) (consA (compE false [3] (walkA (bin (sbU G.tab) (vE 0) (cE (.int 1)))) (nmG 3) (yesB) (callF 2 (f_u_law_do G) (consA (vE 1) (consA (vE 3) (nilA))))) (nilA))) (nmG 2)) (retS (tupE (consA (vE 2) (consA (callF 1 (f_u_law_picture G) (consA (vE 1) (nilA))) (nilA))))))
noncomputable def f_u_law_run (G : Glb) : List U → IH → R U := popF (fnR 4 1 (c_u_law_run G))
theorem g_u_law_run {P : Program} {w : World} {K : PySem.W.Frag} {mg : Str → Option Value} {base : Heap} {G : Glb} (T : Txt P w K mg G) (C_u_law_do : Cal P w K mg base 3 "_law_do" 2 (f_u_law_do G)) (C_u_law_picture : Cal P w K mg base 2 "_law_picture" 1 (f_u_law_picture G)) (C_u_law_store : Cal P w K mg base 1 "_law_store" 1 (f_u_law_store G)) {f : Addr} {fd : FuncData} (F : L2.Fun K "_law_run" "_law_run" st_u_law_run f fd) : FnG P w K mg base 4 f fd ["program"] (spI K 1 (f_u_law_run G)) := by
  have z : FnG P w K mg base 4 f fd ["program"] (spI K 1 (fnR 4 1 (c_u_law_run G))) := fn_n F s_u_law_run rfl rfl (b := c_u_law_run G) fun cd A out s H E B =>
    (is_cons (is_set (i := 1) s_u_law_run.nd rfl (by first | exact Or.inl rfl | exact Or.inr rfl) (ie_call C_u_law_store B (by first | decide | exact Nat.le_refl _) (by exact rfl) (ia_cons (ie_sub_ B T.tab (ie_v (i := 0) rfl (by first | exact Or.inl rfl | exact Or.inr (Or.inl rfl) | exact Or.inr (Or.inr rfl))) ie_int) ia_nil))) (is_cons (is_set (i := 2) s_u_law_run.nd rfl (by first | exact Or.inl rfl | exact Or.inr rfl) (ie_tuple (by exact rfl) T.b_tuple (ia_cons (ie_comp false B.calm s_u_law_run.nd (own := [("deed", 3)]) (ii_any (ie_sub_ B T.tab (ie_v (i := 0) rfl (by first | exact Or.inl rfl | exact Or.inr (Or.inl rfl) | exact Or.inr (Or.inr rfl))) ie_int)) (blkOk_by (N := ["program", "store", "found", "deed"]) (sc := defScope st_u_law_run) (by decide +kernel)) (by decide) (fun s0 h0 c0 l0 q0 => (ig_name (i := 3) s_u_law_run.nd rfl (by first | exact Or.inl rfl | exact Or.inr rfl))) (fun s0 h0 c0 l0 q0 => its_nil) (fun s0 h0 c0 l0 q0 => (ie_call C_u_law_do (Bd.blk B s0 h0 _ _ q0) (by first | decide | exact Nat.le_refl _) (by exact rfl) (ia_cons (ie_v (i := 1) rfl (by first | exact Or.inl rfl | exact Or.inr (Or.inl rfl) | exact Or.inr (Or.inr rfl))) (ia_cons (ie_v (i := 3) rfl (by first | exact Or.inl rfl | exact Or.inr (Or.inl rfl) | exact Or.inr (Or.inr rfl))) ia_nil))))) ia_nil))) (is_one (is_ret (ie_tup (ia_cons (ie_v (i := 2) rfl (by first | exact Or.inl rfl | exact Or.inr (Or.inl rfl) | exact Or.inr (Or.inr rfl))) (ia_cons (ie_call C_u_law_picture B (by first | decide | exact Nat.le_refl _) (by exact rfl) (ia_cons (ie_v (i := 1) rfl (by first | exact Or.inl rfl | exact Or.inr (Or.inl rfl) | exact Or.inr (Or.inr rfl))) ia_nil)) ia_nil)))))))
  exact z.pop
/-! ### _law_is_commuting -/
abbrev st_u_law_is_commuting : Stmt := top 38
theorem s_u_law_is_commuting : FnScope ["well", "one", "other", "deeds", "mine", "yours", "turn"] ["well", "one", "other"] (defScope st_u_law_is_commuting) := ⟨rfl, rfl, rfl, by decide +kernel, rfl, by decide +kernel, by decide +kernel⟩
noncomputable def c_u_law_is_commuting (G : Glb) : SM :=
  seq (asgS (callA (on1 tupleU) (consA (compE false [6] (rng1 (consA (callF 2 (f_u_law_draw G) (consA (vE 0) (consA (cE (.int 25)) (nilA)))) (nilA))) (nmG 6) (yesB) (callF 2 (f_u_law_deed G) (consA (vE 0) (consA (cE (.int 3)) (nilA))))) (nilA))) (nmG 3)) (seq (par2 4 5 (consA (callF 1 (f_u_law_run G) (consA (tupE (consA (cE (.int 6)) (consA (bin (addU false) (vE 3) (tupE (consA (vE 1) (consA (vE 2) (nilA))))) (nilA)))) (nilA))) (consA (callF 1 (f_u_law_run G) (consA (tupE (consA (cE (.int 6)) (consA (bin (addU false) (vE 3) (tupE (consA (vE 2) (consA (vE 1) (nilA))))) (nilA)))) (nilA))) (nilA)))) (retS (andE (bin (eqU false) (callA (on1 reprU) (consA (bin (sbU G.tab) (vE 4) (cE (.int 1))) (nilA))) (callA (on1 reprU) (consA (bin (sbU G.tab) (vE 5) (cE (.int 1))) (nilA)))) (bin (eqU false) (callA (on1 reprU) (consA (slE false (bin (sbU G.tab) (vE 4) (cE (.int 0))) (someP (negE (cE (.int 2)))) (noP)) (nilA))) (callA (on1 reprU) (consA (un (backU false) (slE false (bin (sbU G.tab) (vE 5) (cE (.int 0))) (someP (negE (cE (.int 2)))) (noP))) (nilA)))))))
noncomputable def f_u_law_is_commuting (G : Glb) : List U → IH → R U := popF (fnR 7 3 (c_u_law_is_commuting G))
theorem g_u_law_is_commuting {P : Program} {w : World} {K : PySem.W.Frag} {mg : Str → Option Value} {base : Heap} {G : Glb} (T : Txt P w K mg G) (C_u_law_deed : Cal P w K mg base 2 "_law_deed" 2 (f_u_law_deed G)) (C_u_law_draw : Cal P w K mg base 1 "_law_draw" 2 (f_u_law_draw G)) (C_u_law_run : Cal P w K mg base 4 "_law_run" 1 (f_u_law_run G)) {f : Addr} {fd : FuncData} (F : L2.Fun K "_law_is_commuting" "_law_is_commuting" st_u_law_is_commuting f fd) : FnG P w K mg base 5 f fd ["well", "one", "other"] (spI K 3 (f_u_law_is_commuting G)) := by
  have z : FnG P w K mg base 5 f fd ["well", "one", "other"] (spI K 3 (fnR 7 3 (c_u_law_is_commuting G))) := fn_n F s_u_law_is_commuting rfl rfl (b := c_u_law_is_commuting G) fun cd A out s H E B =>
    (is_cons (is_set (i := 3) s_u_law_is_commuting.nd rfl (by first | exact Or.inl rfl | exact Or.inr rfl) (ie_tuple (by exact rfl) T.b_tuple (ia_cons (ie_comp false B.calm s_u_law_is_commuting.nd (own := [("turn", 6)]) (ii_range1 (by exact rfl) T.b_range (ia_cons (ie_call C_u_law_draw B (by first | decide | exact Nat.le_refl _) (by exact rfl) (ia_cons (ie_v (i := 0) rfl (by first | exact Or.inl rfl | exact Or.inr (Or.inl rfl) | exact Or.inr (Or.inr rfl))) (ia_cons ie_int ia_nil))) ia_nil)) (blkOk_by (N := ["well", "one", "other", "deeds", "mine", "yours", "turn"]) (sc := defScope st_u_law_is_commuting) (by decide +kernel)) (by decide) (fun s0 h0 c0 l0 q0 => (ig_name (i := 6) s_u_law_is_commuting.nd rfl (by first | exact Or.inl rfl | exact Or.inr rfl))) (fun s0 h0 c0 l0 q0 => its_nil) (fun s0 h0 c0 l0 q0 => (ie_call C_u_law_deed (Bd.blk B s0 h0 _ _ q0) (by first | decide | exact Nat.le_refl _) (by exact rfl) (ia_cons (ie_v (i := 0) rfl (by first | exact Or.inl rfl | exact Or.inr (Or.inl rfl) | exact Or.inr (Or.inr rfl))) (ia_cons ie_int ia_nil))))) ia_nil))) (is_cons (is_par (i := 4) (j := 5) B.calm s_u_law_is_commuting.nd rfl rfl (by decide) rfl rfl (ia_cons (ie_call C_u_law_run B (by first | decide | exact Nat.le_refl _) (by exact rfl) (ia_cons (ie_tup (ia_cons ie_int (ia_cons (ie_add false (ie_v (i := 3) rfl (by first | exact Or.inl rfl | exact Or.inr (Or.inl rfl) | exact Or.inr (Or.inr rfl))) (ie_tup (ia_cons (ie_v (i := 1) rfl (by first | exact Or.inl rfl | exact Or.inr (Or.inl rfl) | exact Or.inr (Or.inr rfl))) (ia_cons (ie_v (i := 2) rfl (by first | exact Or.inl rfl | exact Or.inr (Or.inl rfl) | exact Or.inr (Or.inr rfl))) ia_nil)))) ia_nil))) ia_nil)) (ia_cons (ie_call C_u_law_run B (by first | decide | exact Nat.le_refl _) (by exact rfl) (ia_cons (ie_tup (ia_cons ie_int (ia_cons (ie_add false (ie_v (i := 3) rfl (by first | exact Or.inl rfl | exact Or.inr (Or.inl rfl) | exact Or.inr (Or.inr rfl))) (ie_tup (ia_cons (ie_v (i := 2) rfl (by first | exact Or.inl rfl | exact Or.inr (Or.inl rfl) | exact Or.inr (Or.inr rfl))) (ia_cons (ie_v (i := 1) rfl (by first | exact Or.inl rfl | exact Or.inr (Or.inl rfl) | exact Or.inr (Or.inr rfl))) ia_nil)))) ia_nil))) ia_nil)) ia_nil)) (by with_unfolding_all rfl)) (is_one (is_ret (ie_and (ie_cmp (op_eqD B.u64) eqU_noe eqU_ok (ie_repr B.gd B.u66 (by exact rfl) T.b_repr (ia_cons (ie_sub_ B T.tab (ie_v (i := 4) rfl (by first | exact Or.inl rfl | exact Or.inr (Or.inl rfl) | exact Or.inr (Or.inr rfl))) ie_int) ia_nil)) (ie_repr B.gd B.u66 (by exact rfl) T.b_repr (ia_cons (ie_sub_ B T.tab (ie_v (i := 5) rfl (by first | exact Or.inl rfl | exact Or.inr (Or.inl rfl) | exact Or.inr (Or.inr rfl))) ie_int) ia_nil)) (nomark _)) (ie_one (ie_cmp (op_eqD B.u64) eqU_noe eqU_ok (ie_repr B.gd B.u66 (by exact rfl) T.b_repr (ia_cons (ie_sl false (ie_sub_ B T.tab (ie_v (i := 4) rfl (by first | exact Or.inl rfl | exact Or.inr (Or.inl rfl) | exact Or.inr (Or.inr rfl))) ie_int) (io_some (ie_neg ie_int)) io_none) ia_nil)) (ie_repr B.gd B.u66 (by exact rfl) T.b_repr (ia_cons (ie_back false (ie_sl false (ie_sub_ B T.tab (ie_v (i := 5) rfl (by first | exact Or.inl rfl | exact Or.inr (Or.inl rfl) | exact Or.inr (Or.inr rfl))) ie_int) (io_some (ie_neg ie_int)) io_none)) ia_nil)) (nomark _))))))))
  exact z.pop
/-! ### law -/
abbrev st_law : Stmt := top 40
theorem s_law : FnScope ["script", "k", "well", "turn", "one", "other", "due", "bads", "bad"] ["script"] (defScope st_law) := ⟨rfl, rfl, rfl, by decide +kernel, rfl, by decide +kernel, by decide +kernel⟩
noncomputable def c_law (G : Glb) : SM :=
  seq (forS (rng1 (consA (callA (on2 max2U) (consA (cE (.int 1)) (consA (callA (on2 min2U) (consA (cE (.int 4)) (consA (callA (on1 lenU) (consA (vE 0) (nilA))) (nilA)))) (nilA)))) (nilA))) (nmG 1) (seq (asgS (callF 2 (f_u_law_well G) (consA (vE 0) (consA (vE 1) (nilA)))) (nmG 2)) (seq (forS (rng1 (consA (cE (.int 12)) (nilA))) (nmG 3) (seq (asgS (callF 1 (f_u_law_pair G) (consA (vE 2) (nilA))) (seqG 2 (consG (nmG 4) (consG (nmG 5) (nilG))))) (seq (asgS (callF 2 (f_u_law_clash G) (consA (vE 4) (consA (vE 5) (nilA)))) (nmG 6)) (seq (ifS (asB (bin (eqU true) (callA (on1 reprU) (consA (lstE false (consA (callF 2 (f_clash G) (consA (vE 4) (consA (vE 5) (nilA)))) (consA (callK 2 2 [1, 0] (f_clash G) (consA (vE 4) (consA (vE 5) (nilA)))) (nilA)))) (nilA))) (callA (on1 reprU) (consA (lstE false (consA (vE 6) (consA (vE 6) (nilA)))) (nilA))))) (retS (cE (.bl false))) (nxS)) (ifS (andB (notB (tst (vE 6))) (notB (tst (callF 3 (f_u_law_is_commuting G) (consA (vE 2) (consA (vE 4) (consA (vE 5) (nilA)))))))) (retS (cE (.bl false))) (nxS)))))) (seq (asgS (lstE false (consA (cE .non) (consA (lstE false (consA (vE 4) (nilA))) (consA (slE false (vE 4) (noP) (someP (negE (cE (.int 1))))) (consA (bin (addU false) (vE 4) (tupE (consA (cE (.int 0)) (nilA)))) (consA (tupE (consA (cE (.str "clear")) (consA (cE (.int 6)) (nilA)))) (consA (tupE (consA (cE (.str "write")) (consA (cE (.int 0)) (consA (cE (.int 0)) (consA (cE (.int 1001)) (nilA)))))) (consA (tupE (consA (cE (.str "new")) (consA (cE (.int 0)) (consA (cE (.int 5)) (consA (cE (.int 0)) (nilA)))))) (nilA))))))))) (nmG 7)) (seq (asgS (bin (addU false) (vE 7) (lstE false (consA (tupE (consA (cE (.str "read")) (consA (cE (.bl true)) (consA (cE (.int 0)) (nilA))))) (nilA)))) (nmG 7)) (seq (asgS (bin (addU false) (vE 7) (lstE false (consA (tupE (consA (cE (.str "gather")) (consA (cE (.int 0)) (nilA)))) (consA (tupE (consA (cE (.str "Clear")) (consA (cE (.int 0)) (nilA)))) (consA (tupE (nilA)) (consA (cE (.str "gather")) (consA (tupE (consA (cE (.str "weak")) (consA (cE (.int 4)) (consA (cE (.int 0)) (nilA))))) (consA (tupE (consA (cE (.str "link")) (consA (cE (.int 0)) (consA (cE (.int 4)) (consA (cE (.int 0)) (nilA)))))) (consA (tupE (consA (cE (.str "next")) (consA (negE (cE (.int 1))) (nilA)))) (nilA)))))))))) (nmG 7)) (seq (asgS (bin (addU false) (vE 7) (lstE false (consA (tupE (consA (cE .non) (consA (cE (.int 0)) (nilA)))) (nilA)))) (nmG 7)) (seq (asgS (bin (sbU G.tab) (vE 7) (callF 2 (f_u_law_draw G) (consA (vE 2) (consA (cE (.int 16)) (nilA))))) (nmG 8)) (seq (ifS (andB (asB (bin (eqU true) (vE 8) (vE 4))) (notB (tst (callF 3 (f_u_law_refused G) (consA (vE 8) (consA (cE .non) (consA (vE 8) (nilA)))))))) (retS (cE (.bl false))) (nxS)) (ifS (andB (asB (bin (eqU true) (vE 8) (vE 4))) (notB (tst (callF 3 (f_u_law_refused G) (consA (vE 5) (consA (vE 8) (consA (vE 8) (nilA)))))))) (retS (cE (.bl false))) (nxS))))))))))) (retS (cE (.bl true)))
noncomputable def f_law (G : Glb) : List U → IH → R U := popF (fnR 9 1 (c_law G))
theorem g_law {P : Program} {w : World} {K : PySem.W.Frag} {mg : Str → Option Value} {base : Heap} {G : Glb} (T : Txt P w K mg G) (C_u_law_clash : Cal P w K mg base 2 "_law_clash" 2 (f_u_law_clash G)) (C_u_law_draw : Cal P w K mg base 1 "_law_draw" 2 (f_u_law_draw G)) (C_u_law_is_commuting : Cal P w K mg base 5 "_law_is_commuting" 3 (f_u_law_is_commuting G)) (C_u_law_pair : Cal P w K mg base 3 "_law_pair" 1 (f_u_law_pair G)) (C_u_law_refused : Cal P w K mg base 8 "_law_refused" 3 (f_u_law_refused G)) (C_u_law_well : Cal P w K mg base 1 "_law_well" 2 (f_u_law_well G)) (C_clash : Cal P w K mg base 7 "clash" 2 (f_clash G)) (CK_clash : CalK P w K mg base 7 "clash" 2 ["other", "one"] [1, 0] (f_clash G)) {f : Addr} {fd : FuncData} (F : L2.Fun K "law" "law" st_law f fd) : FnG P w K mg base 9 f fd ["script"] (spI K 1 (f_law G)) := by
  have z : FnG P w K mg base 9 f fd ["script"] (spI K 1 (fnR 9 1 (c_law G))) := fn_n F s_law rfl rfl (b := c_law G) fun cd A out s H E B =>
    (is_cons (is_for B.own B.calm (ii_range1 (by exact rfl) T.b_range (ia_cons (ie_max2 B.calm (by exact rfl) T.b_max (ia_cons ie_int (ia_cons (ie_min2 B.calm (by exact rfl) T.b_min (ia_cons ie_int (ia_cons (ie_len (by exact rfl) T.b_len (ia_cons (ie_v (i := 0) rfl (by first | exact Or.inl rfl | exact Or.inr (Or.inl rfl) | exact Or.inr (Or.inr rfl))) ia_nil)) ia_nil))) ia_nil))) ia_nil)) (ig_name (i := 1) s_law.nd rfl (by first | exact Or.inl rfl | exact Or.inr rfl)) (is_cons (is_set (i := 2) s_law.nd rfl (by first | exact Or.inl rfl | exact Or.inr rfl) (ie_call C_u_law_well B (by first | decide | exact Nat.le_refl _) (by exact rfl) (ia_cons (ie_v (i := 0) rfl (by first | exact Or.inl rfl | exact Or.inr (Or.inl rfl) | exact Or.inr (Or.inr rfl))) (ia_cons (ie_v (i := 1) rfl (by first | exact Or.inl rfl | exact Or.inr (Or.inl rfl) | exact Or.inr (Or.inr rfl))) ia_nil)))) (is_cons (is_for B.own B.calm (ii_range1 (by exact rfl) T.b_range (ia_cons ie_int ia_nil)) (ig_name (i := 3) s_law.nd rfl (by first | exact Or.inl rfl | exact Or.inr rfl)) (is_cons (is_asg (ie_call C_u_law_pair B (by first | decide | exact Nat.le_refl _) (by exact rfl) (ia_cons (ie_v (i := 2) rfl (by first | exact Or.inl rfl | exact Or.inr (Or.inl rfl) | exact Or.inr (Or.inr rfl))) ia_nil)) (ig_seq B.calm (igs_cons (ig_name (i := 4) s_law.nd rfl (by first | exact Or.inl rfl | exact Or.inr rfl)) (igs_cons (ig_name (i := 5) s_law.nd rfl (by first | exact Or.inl rfl | exact Or.inr rfl)) igs_nil)))) (is_cons (is_set (i := 6) s_law.nd rfl (by first | exact Or.inl rfl | exact Or.inr rfl) (ie_call C_u_law_clash B (by first | decide | exact Nat.le_refl _) (by exact rfl) (ia_cons (ie_v (i := 4) rfl (by first | exact Or.inl rfl | exact Or.inr (Or.inl rfl) | exact Or.inr (Or.inr rfl))) (ia_cons (ie_v (i := 5) rfl (by first | exact Or.inl rfl | exact Or.inr (Or.inl rfl) | exact Or.inr (Or.inr rfl))) ia_nil)))) (is_cons (is_if (it_cmp (op_neD B.u64) eqU_noe neU_ok (ie_repr B.gd B.u66 (by exact rfl) T.b_repr (ia_cons (ie_lst false (ia_cons (ie_call C_clash B (by first | decide | exact Nat.le_refl _) (by exact rfl) (ia_cons (ie_v (i := 4) rfl (by first | exact Or.inl rfl | exact Or.inr (Or.inl rfl) | exact Or.inr (Or.inr rfl))) (ia_cons (ie_v (i := 5) rfl (by first | exact Or.inl rfl | exact Or.inr (Or.inl rfl) | exact Or.inr (Or.inr rfl))) ia_nil))) (ia_cons (ie_callK (ks := ["other", "one"]) CK_clash B (by decide) (by exact rfl) (ik_cons (ie_v (i := 4) rfl (by first | exact Or.inl rfl | exact Or.inr (Or.inl rfl) | exact Or.inr (Or.inr rfl))) (ik_cons (ie_v (i := 5) rfl (by first | exact Or.inl rfl | exact Or.inr (Or.inl rfl) | exact Or.inr (Or.inr rfl))) ik_nil))) ia_nil))) ia_nil)) (ie_repr B.gd B.u66 (by exact rfl) T.b_repr (ia_cons (ie_lst false (ia_cons (ie_v (i := 6) rfl (by first | exact Or.inl rfl | exact Or.inr (Or.inl rfl) | exact Or.inr (Or.inr rfl))) (ia_cons (ie_v (i := 6) rfl (by first | exact Or.inl rfl | exact Or.inr (Or.inl rfl) | exact Or.inr (Or.inr rfl))) ia_nil))) ia_nil)) (nomark _)) (is_one (is_ret ie_bl)) is_nil) (is_one (is_if (PW.pt (iw_and (it_not (it_tru (ie_v (i := 6) rfl (by first | exact Or.inl rfl | exact Or.inr (Or.inl rfl) | exact Or.inr (Or.inr rfl))))) (iw_and1 (it_not (it_tru (ie_call C_u_law_is_commuting B (by first | decide | exact Nat.le_refl _) (by exact rfl) (ia_cons (ie_v (i := 2) rfl (by first | exact Or.inl rfl | exact Or.inr (Or.inl rfl) | exact Or.inr (Or.inr rfl))) (ia_cons (ie_v (i := 4) rfl (by first | exact Or.inl rfl | exact Or.inr (Or.inl rfl) | exact Or.inr (Or.inr rfl))) (ia_cons (ie_v (i := 5) rfl (by first | exact Or.inl rfl | exact Or.inr (Or.inl rfl) | exact Or.inr (Or.inr rfl))) ia_nil))))))))) (is_one (is_ret ie_bl)) is_nil)))))) (is_cons (is_set (i := 7) s_law.nd rfl (by first | exact Or.inl rfl | exact Or.inr rfl) (ie_lst false (ia_cons ie_non (ia_cons (ie_lst false (ia_cons (ie_v (i := 4) rfl (by first | exact Or.inl rfl | exact Or.inr (Or.inl rfl) | exact Or.inr (Or.inr rfl))) ia_nil)) (ia_cons (ie_sl false (ie_v (i := 4) rfl (by first | exact Or.inl rfl | exact Or.inr (Or.inl rfl) | exact Or.inr (Or.inr rfl))) io_none (io_some (ie_neg ie_int))) (ia_cons (ie_add false (ie_v (i := 4) rfl (by first | exact Or.inl rfl | exact Or.inr (Or.inl rfl) | exact Or.inr (Or.inr rfl))) (ie_tup (ia_cons ie_int ia_nil))) (ia_cons (ie_tup (ia_cons ie_str (ia_cons ie_int ia_nil))) (ia_cons (ie_tup (ia_cons ie_str (ia_cons ie_int (ia_cons ie_int (ia_cons ie_int ia_nil))))) (ia_cons (ie_tup (ia_cons ie_str (ia_cons ie_int (ia_cons ie_int (ia_cons ie_int ia_nil))))) ia_nil))))))))) (is_cons (is_set (i := 7) s_law.nd rfl (by first | exact Or.inl rfl | exact Or.inr rfl) (ie_add false (ie_v (i := 7) rfl (by first | exact Or.inl rfl | exact Or.inr (Or.inl rfl) | exact Or.inr (Or.inr rfl))) (ie_lst false (ia_cons (ie_tup (ia_cons ie_str (ia_cons ie_bl (ia_cons ie_int ia_nil)))) ia_nil)))) (is_cons (is_set (i := 7) s_law.nd rfl (by first | exact Or.inl rfl | exact Or.inr rfl) (ie_add false (ie_v (i := 7) rfl (by first | exact Or.inl rfl | exact Or.inr (Or.inl rfl) | exact Or.inr (Or.inr rfl))) (ie_lst false (ia_cons (ie_tup (ia_cons ie_str (ia_cons ie_int ia_nil))) (ia_cons (ie_tup (ia_cons ie_str (ia_cons ie_int ia_nil))) (ia_cons (ie_tup ia_nil) (ia_cons ie_str (ia_cons (ie_tup (ia_cons ie_str (ia_cons ie_int (ia_cons ie_int ia_nil)))) (ia_cons (ie_tup (ia_cons ie_str (ia_cons ie_int (ia_cons ie_int (ia_cons ie_int ia_nil))))) (ia_cons (ie_tup (ia_cons ie_str (ia_cons (ie_neg ie_int) ia_nil))) ia_nil)))))))))) (is_cons (is_set (i := 7) s_law.nd rfl (by first | exact Or.inl rfl | exact Or.inr rfl) (ie_add false (ie_v (i := 7) rfl (by first | exact Or.inl rfl | exact Or.inr (Or.inl rfl) | exact Or.inr (Or.inr rfl))) (ie_lst false (ia_cons (ie_tup (ia_cons ie_non (ia_cons ie_int ia_nil))) ia_nil)))) (is_cons (is_set (i := 8) s_law.nd rfl (by first | exact Or.inl rfl | exact Or.inr rfl) (ie_sub_ B T.tab (ie_v (i := 7) rfl (by first | exact Or.inl rfl | exact Or.inr (Or.inl rfl) | exact Or.inr (Or.inr rfl))) (ie_call C_u_law_draw B (by first | decide | exact Nat.le_refl _) (by exact rfl) (ia_cons (ie_v (i := 2) rfl (by first | exact Or.inl rfl | exact Or.inr (Or.inl rfl) | exact Or.inr (Or.inr rfl))) (ia_cons ie_int ia_nil))))) (is_cons (is_if (PW.pt (iw_and (it_cmp (op_neD B.u64) eqU_noe neU_ok (ie_v (i := 8) rfl (by first | exact Or.inl rfl | exact Or.inr (Or.inl rfl) | exact Or.inr (Or.inr rfl))) (ie_v (i := 4) rfl (by first | exact Or.inl rfl | exact Or.inr (Or.inl rfl) | exact Or.inr (Or.inr rfl))) (nomark _)) (iw_and1 (it_not (it_tru (ie_call C_u_law_refused B (by first | decide | exact Nat.le_refl _) (by exact rfl) (ia_cons (ie_v (i := 8) rfl (by first | exact Or.inl rfl | exact Or.inr (Or.inl rfl) | exact Or.inr (Or.inr rfl))) (ia_cons ie_non (ia_cons (ie_v (i := 8) rfl (by first | exact Or.inl rfl | exact Or.inr (Or.inl rfl) | exact Or.inr (Or.inr rfl))) ia_nil))))))))) (is_one (is_ret ie_bl)) is_nil) (is_one (is_if (PW.pt (iw_and (it_cmp (op_neD B.u64) eqU_noe neU_ok (ie_v (i := 8) rfl (by first | exact Or.inl rfl | exact Or.inr (Or.inl rfl) | exact Or.inr (Or.inr rfl))) (ie_v (i := 4) rfl (by first | exact Or.inl rfl | exact Or.inr (Or.inl rfl) | exact Or.inr (Or.inr rfl))) (nomark _)) (iw_and1 (it_not (it_tru (ie_call C_u_law_refused B (by first | decide | exact Nat.le_refl _) (by exact rfl) (ia_cons (ie_v (i := 5) rfl (by first | exact Or.inl rfl | exact Or.inr (Or.inl rfl) | exact Or.inr (Or.inr rfl))) (ia_cons (ie_v (i := 8) rfl (by first | exact Or.inl rfl | exact Or.inr (Or.inl rfl) | exact Or.inr (Or.inr rfl))) (ia_cons (ie_v (i := 8) rfl (by first | exact Or.inl rfl | exact Or.inr (Or.inl rfl) | exact Or.inr (Or.inr rfl))) ia_nil))))))))) (is_one (is_ret ie_bl)) is_nil))))))))))) (is_one (is_ret ie_bl)))
  exact z.pop
end PD.K76

set_option Elab.async false
set_option linter.all false
set_option maxRecDepth 100000
set_option maxHeartbeats 4000000
namespace PD.K76
open PySem PySem.Spec PyProof.Rows L2
variable (G : Glb)
theorem is_integer_int (i : Int) (h : IH) : f_is_integer G [.int i] h = .ok (.bl true) h := by
  refine pop_same ?_ rfl
  rw [fnR_e]
  simp [c_is_integer]
theorem is_integer_b (b : Bool) (h : IH) : f_is_integer G [.bl b] h = .ok (.bl false) h := by
  refine pop_same ?_ rfl
  rw [fnR_e]
  simp [c_is_integer]
theorem is_between_int (i lo hi : Int) (h : IH) : f_is_between G [.int i, .int lo, .int hi] h = .ok (.bl (decide (lo ≤ i ∧ i ≤ hi))) h := by
  refine pop_same ?_ rfl
  rw [fnR_e]
  simp [c_is_between, is_integer_int]
  by_cases e : lo ≤ i <;> simp [e]
theorem is_between_b (b : Bool) (lo hi : Int) (h : IH) : f_is_between G [.bl b, .int lo, .int hi] h = .ok (.bl false) h := by
  refine pop_same ?_ rfl
  rw [fnR_e]
  simp [c_is_between, is_integer_b]
theorem is_part_n (n i : Int) (h : IH) : f_is_part G [.str "n", .int n, .int i] h = .ok (.bl (decide (-1000 ≤ i ∧ i ≤ 1000))) h := by
  refine pop_same ?_ rfl
  rw [fnR_e]
  simp [c_is_part, eqU_s, is_between_int]
theorem is_part_i (l : Str) (m i : Int) (h : IH) (e : (l = "r" ∧ m = 5) ∨ (l = "i" ∧ m = 3) ∨ (l = "p" ∧ m = 4)) : f_is_part G [.str l, .int 6, .int i] h = .ok (.bl (decide (0 ≤ i ∧ i ≤ m))) h := by
  refine pop_grow (g := [.dk [(.inr "r", .int 5), (.inr "i", .int 3), (.inr "p", .int 4)]]) ?_ rfl
  rw [fnR_e]
  rcases e with ⟨rfl, rfl⟩ | ⟨rfl, rfl⟩ | ⟨rfl, rfl⟩ <;>
  · simp [c_is_part, eqU_s]
    rw [dispV_e rfl (by decide)]
    simp [mergeD, putD, getD, is_between_int]
theorem is_word_s (w : Str) (ws : List Str) (h : IH) (e : PyData.strOk w = true) (es : ∀ v ∈ ws, PyData.strOk v = true) : f_is_word G [.str w, .lst (ws.map U.str)] h = .ok (.bl (ws.any fun v => v == w)) h := by
  have sh : ∀ ws : List Str, (∀ v ∈ ws, PyData.strOk v = true) → PyData.canLayAll0 (ws.map PyData.str) = true ∧ PyData.depthAll (ws.map PyData.str) ≤ 1 := by
    intro ws
    induction ws with
    | nil => intro _; simp [PyData.canLayAll0, PyData.depthAll]
    | cons v ws ih =>
      intro e
      obtain ⟨a, b⟩ := ih fun v hv => e v (by simp [hv])
      simp [PyData.canLayAll0, PyData.depthAll, PyData.canLay0, PyData.depth, e v (by simp), a]
      omega
  obtain ⟨a, b⟩ := sh ws es
  have sd : SeqAt.shaped (.list (ws.map PyData.str)) = true := by
    simp [SeqAt.shaped, PyData.canLay0, PyData.depth, a]; omega
  refine pop_same ?_ rfl
  rw [fnR_e]
  simp [c_is_word, hasU, tD, pD, pDs_strs, sh_str e, sd, List.any_map, Function.comp_def]
def words : List Str := ["new", "copy", "clear", "link", "follow", "write", "read", "same", "shape", "weak", "look", "wish", "next", "gather"]
theorem words_ok : ∀ v ∈ words, PyData.strOk v = true := by simp [words]
theorem tab_k : G.tab G.k_SHAPES = some t_SHAPES := by simp [Glb.tab]
def kws : List U := words.map U.str
theorem is_word_w (w : Str) (e : PyData.strOk w = true) (h : IH) : f_is_word G [.str w, .lst kws] h = .ok (.bl (words.any fun v => v == w)) h := is_word_s G w words h e words_ok
theorem listW_k (h : IH) : listW false G.tab (.adr G.k_SHAPES) h = .ok (.lst kws) h := by
  simp [listW, tab_k]
  rfl
theorem so_s {s : String} {h : IH} {xs : List U} (e : (s.toList.map fun c => U.str (Str.ofString (String.singleton c))) = xs) : soU h (.str (Str.ofString s)) = some (xs, []) := by
  unfold soU
  dsimp only
  rw [ofs_items, e]
theorem so_rpp (h : IH) : soU h (.str "rpp") = some ([.str "r", .str "p", .str "p"], []) := so_s rfl
theorem so_rr (h : IH) : soU h (.str "rr") = some ([.str "r", .str "r"], []) := so_s rfl
theorem so_r (h : IH) : soU h (.str "r") = some ([.str "r"], []) := so_s rfl
theorem so_rir (h : IH) : soU h (.str "rir") = some ([.str "r", .str "i", .str "r"], []) := so_s rfl
theorem so_rri (h : IH) : soU h (.str "rri") = some ([.str "r", .str "r", .str "i"], []) := so_s rfl
theorem so_rin (h : IH) : soU h (.str "rin") = some ([.str "r", .str "i", .str "n"], []) := so_s rfl
theorem so_ri (h : IH) : soU h (.str "ri") = some ([.str "r", .str "i"], []) := so_s rfl
theorem so_ir (h : IH) : soU h (.str "ir") = some ([.str "i", .str "r"], []) := so_s rfl
theorem so_0 (h : IH) : soU h (.str "") = some ([], []) := so_s rfl
theorem len_str (s : String) (h : IH) (e : s.length ≤ 16777216) : lenU (.str (Str.ofString s)) h = .ok (.int s.length) h := by
  have l : (Str.ofString s).length = s.length := by
    rw [Str.ofString_eq_toList]
    simp [Str.length, String.length_toList]
  unfold lenU
  simp [l, e]
theorem len_rpp (h : IH) : lenU (.str "rpp") h = .ok (.int 3) h := len_str "rpp" h (by decide)
theorem len_rr (h : IH) : lenU (.str "rr") h = .ok (.int 2) h := len_str "rr" h (by decide)
theorem len_r (h : IH) : lenU (.str "r") h = .ok (.int 1) h := len_str "r" h (by decide)
theorem len_rir (h : IH) : lenU (.str "rir") h = .ok (.int 3) h := len_str "rir" h (by decide)
theorem len_rri (h : IH) : lenU (.str "rri") h = .ok (.int 3) h := len_str "rri" h (by decide)
theorem len_rin (h : IH) : lenU (.str "rin") h = .ok (.int 3) h := len_str "rin" h (by decide)
theorem len_ri (h : IH) : lenU (.str "ri") h = .ok (.int 2) h := len_str "ri" h (by decide)
theorem len_ir (h : IH) : lenU (.str "ir") h = .ok (.int 2) h := len_str "ir" h (by decide)
theorem len_0 (h : IH) : lenU (.str "") h = .ok (.int 0) h := len_str "" h (by decide)
theorem part_r (i : Nat) (h : IH) (e : i < 6) : f_is_part G [.str "r", .int 6, .int i] h = .ok (.bl true) h := by
  rw [is_part_i G "r" 5 i h (.inl ⟨rfl, rfl⟩)]; simp; omega
theorem part_i (i : Nat) (h : IH) (e : i < 4) : f_is_part G [.str "i", .int 6, .int i] h = .ok (.bl true) h := by
  rw [is_part_i G "i" 3 i h (.inr (.inl ⟨rfl, rfl⟩))]; simp; omega
theorem part_p3 (i : Nat) (h : IH) (e : i < 3) : f_is_part G [.str "p", .int 6, .int i] h = .ok (.bl true) h := by
  rw [is_part_i G "p" 4 i h (.inr (.inr ⟨rfl, rfl⟩))]; simp; omega
theorem part_p (i : Nat) (h : IH) (e : i < 4) : f_is_part G [.str "p", .int 6, .int i] h = .ok (.bl true) h := by
  rw [is_part_i G "p" 4 i h (.inr (.inr ⟨rfl, rfl⟩))]; simp; omega
theorem part_n (i : Int) (h : IH) (e : -1000 ≤ i ∧ i ≤ 1000) : f_is_part G [.str "n", .int 6, .int i] h = .ok (.bl true) h := by
  rw [is_part_n G 6 i h]; simp; omega
theorem lk_new : List.lookup ("new" : Str) t_SHAPES = some (U.str "rpp") := by simp [t_SHAPES, List.lookup]
theorem lk_copy : List.lookup ("copy" : Str) t_SHAPES = some (U.str "rr") := by simp [t_SHAPES, List.lookup]
theorem lk_clear : List.lookup ("clear" : Str) t_SHAPES = some (U.str "r") := by simp [t_SHAPES, List.lookup]
theorem lk_link : List.lookup ("link" : Str) t_SHAPES = some (U.str "rir") := by simp [t_SHAPES, List.lookup]
theorem lk_follow : List.lookup ("follow" : Str) t_SHAPES = some (U.str "rri") := by simp [t_SHAPES, List.lookup]
theorem lk_write : List.lookup ("write" : Str) t_SHAPES = some (U.str "rin") := by simp [t_SHAPES, List.lookup]
theorem lk_read : List.lookup ("read" : Str) t_SHAPES = some (U.str "ri") := by simp [t_SHAPES, List.lookup]
theorem lk_same : List.lookup ("same" : Str) t_SHAPES = some (U.str "rr") := by simp [t_SHAPES, List.lookup]
theorem lk_shape : List.lookup ("shape" : Str) t_SHAPES = some (U.str "r") := by simp [t_SHAPES, List.lookup]
theorem lk_weak : List.lookup ("weak" : Str) t_SHAPES = some (U.str "ir") := by simp [t_SHAPES, List.lookup]
theorem lk_look : List.lookup ("look" : Str) t_SHAPES = some (U.str "ri") := by simp [t_SHAPES, List.lookup]
theorem lk_wish : List.lookup ("wish" : Str) t_SHAPES = some (U.str "r") := by simp [t_SHAPES, List.lookup]
theorem lk_next : List.lookup ("next" : Str) t_SHAPES = some (U.str "r") := by simp [t_SHAPES, List.lookup]
theorem lk_gather : List.lookup ("gather" : Str) t_SHAPES = some (U.str "") := by simp [t_SHAPES, List.lookup]
theorem is_a_deed_ok (d : D) (h : IH) (e : d.ok 6) : f_is_a_deed G [.int 6, d.u] h = .ok (.bl true) h := by
  refine pop_same ?_ rfl
  rw [fnR_e]
  cases d <;> simp only [D.ok] at e <;>
  simp [c_is_a_deed, D.u, D.us, is_word_w, words, listW_k, -List.any_map, -List.map_map, eqU_e, tD, pD, pDs, SeqAt.shaped, PyData.canLay0, PyData.canLayAll0, PyData.depth, PyData.depthAll, eqV, PyData.eqv, PyData.eqvAll, tab_k, lk_new, lk_copy, lk_clear, lk_link, lk_follow, lk_write, lk_read, lk_same, lk_shape, lk_weak, lk_look, lk_wish, lk_next, lk_gather,
    wipeE, zipV, so_rpp, so_rr, so_r, so_rir, so_rri, so_rin, so_ri, so_ir, so_0, cut_1, zipP, len_0, len_rpp, len_rr, len_r, len_rir, len_rri, len_rin, len_ri, len_ir, part_r, part_i, part_p, part_p3, part_n, bools, e]
theorem bool_part (l : Str) (b : Bool) (m : Int) (h : IH) (e : (l = "r" ∧ m = 5) ∨ (l = "i" ∧ m = 3) ∨ (l = "p" ∧ m = 4)) : f_is_part G [.str l, .int 6, .bl b] h = .ok (.bl false) h := by
  refine pop_grow (g := [.dk [(.inr "r", .int 5), (.inr "i", .int 3), (.inr "p", .int 4)]]) ?_ rfl
  rw [fnR_e]
  rcases e with ⟨rfl, rfl⟩ | ⟨rfl, rfl⟩ | ⟨rfl, rfl⟩ <;>
  · simp [c_is_part, eqU_s]
    rw [dispV_e rfl (by decide)]
    simp [mergeD, putD, getD, is_between_b]
/-- what is no deed -/
def bads (d : D) : List U := [.non, .lst [d.u], .tup d.us.dropLast, .tup (d.us ++ [.int 0]), .tup [.str "clear", .int 6], .tup [.str "write", .int 0, .int 0, .int 1001], .tup [.str "new", .int 0, .int 5, .int 0], .tup [.str "read", .bl true, .int 0],
  .tup [.str "gather", .int 0], .tup [.str "Clear", .int 0], .tup [], .str "gather", .tup [.str "weak", .int 4, .int 0], .tup [.str "link", .int 0, .int 4, .int 0], .tup [.str "next", .int (-1)], .tup [.non, .int 0]]
theorem is_word_non (h : IH) (xs : List U) : f_is_word G [.non, .lst xs] h = .ok (.bl false) h := by
  refine pop_same ?_ rfl
  rw [fnR_e]
  simp [c_is_word]
theorem bads_no (d : D) (h : IH) (u : U) (hu : u ∈ bads d) : f_is_a_deed G [.int 6, u] h = .ok (.bl false) h := by
  refine pop_same ?_ rfl
  rw [fnR_e]
  simp only [bads, List.mem_cons, List.not_mem_nil, or_false] at hu
  rcases hu with rfl | rfl | rfl | rfl | rfl | rfl | rfl | rfl | rfl | rfl | rfl | rfl | rfl | rfl | rfl | rfl
  case inr.inr.inl =>
    cases d <;>
    simp [c_is_a_deed, D.u, D.us, is_word_w, words, listW_k, -List.any_map, -List.map_map, eqU_e, tD, pD, pDs, SeqAt.shaped, PyData.canLay0, PyData.canLayAll0, PyData.depth, PyData.depthAll, eqV, PyData.eqv, PyData.eqvAll, tab_k, lk_new, lk_copy, lk_clear, lk_link, lk_follow, lk_write, lk_read, lk_same, lk_shape, lk_weak, lk_look, lk_wish, lk_next, lk_gather,
      wipeE, zipV, so_rpp, so_rr, so_r, so_rir, so_rri, so_rin, so_ri, so_ir, so_0, cut_1, zipP, len_0, len_rpp, len_rr, len_r, len_rir, len_rri, len_rin, len_ri, len_ir, part_r, part_i, part_p, part_p3, part_n, bools, is_word_non, is_part_i, is_part_n, bool_part]
  case inr.inr.inr.inl =>
    cases d <;>
    simp [c_is_a_deed, D.u, D.us, is_word_w, words, listW_k, -List.any_map, -List.map_map, eqU_e, tD, pD, pDs, SeqAt.shaped, PyData.canLay0, PyData.canLayAll0, PyData.depth, PyData.depthAll, eqV, PyData.eqv, PyData.eqvAll, tab_k, lk_new, lk_copy, lk_clear, lk_link, lk_follow, lk_write, lk_read, lk_same, lk_shape, lk_weak, lk_look, lk_wish, lk_next, lk_gather,
      wipeE, zipV, so_rpp, so_rr, so_r, so_rir, so_rri, so_rin, so_ri, so_ir, so_0, cut_1, zipP, len_0, len_rpp, len_rr, len_r, len_rir, len_rri, len_rin, len_ri, len_ir, part_r, part_i, part_p, part_p3, part_n, bools, is_word_non, is_part_i, is_part_n, bool_part]
  all_goals
    simp [c_is_a_deed, D.u, D.us, is_word_w, words, listW_k, -List.any_map, -List.map_map, eqU_e, tD, pD, pDs, SeqAt.shaped, PyData.canLay0, PyData.canLayAll0, PyData.depth, PyData.depthAll, eqV, PyData.eqv, PyData.eqvAll, tab_k, lk_new, lk_copy, lk_clear, lk_link, lk_follow, lk_write, lk_read, lk_same, lk_shape, lk_weak, lk_look, lk_wish, lk_next, lk_gather,
      wipeE, zipV, so_rpp, so_rr, so_r, so_rir, so_rri, so_rin, so_ri, so_ir, so_0, cut_1, zipP, len_0, len_rpp, len_rr, len_r, len_rir, len_rri, len_rin, len_ri, len_ir, part_r, part_i, part_p, part_p3, part_n, bools, is_word_non, is_part_i, is_part_n, bool_part]
end PD.K76

set_option Elab.async false
set_option linter.all false
set_option maxRecDepth 100000
set_option maxHeartbeats 4000000
namespace PD
open PySem PySem.Spec PyProof.Rows L2
/-! ### two ways -/
section
variable {α : Type} (p : Prop) [Decidable p] (a b : α) (h : IH) (x y : RS) (t : SM) (u v : U)
@[simp] theorem ite_ok : (if p then R.ok a h else R.ok b h) = R.ok (if p then a else b) h := by split <;> rfl
@[simp] theorem ite_rt : (if p then RS.fl (.rt u) h else RS.fl (.rt v) h) = RS.fl (.rt (if p then u else v)) h := by split <;> rfl
@[simp] theorem thn_ite : (if p then x else y).thn t = if p then x.thn t else y.thn t := by split <;> rfl
@[simp] theorem fin_ite : (if p then x else y).fin = if p then x.fin else y.fin := by split <;> rfl
@[simp] theorem turn_ite (s : Src) (g : GM) (b : SM) (xs : List U) : turn s g b xs (if p then x else y) = if p then turn s g b xs x else turn s g b xs y := by split <;> rfl
@[simp] theorem ite_bl (c d : Bool) : (if p then U.bl c else U.bl d) = U.bl (if p then c else d) := by split <;> rfl
theorem vE_g {ρ : Env} {i : Nat} (e : ρ[i]? = some (some u)) : vE i ρ h = .ok u h := by
  unfold vE
  rw [e]
end
/-- a comprehension whose parts do no more than tell values -/
theorem compGo_map {α : Type} {s : Src} {g : GM} {t : BM} {e : EM} {ρ : Env} {h : IH} (c : α → U) (G : α → Env) (p : α → Bool) (f : α → U) (a : s.At h) : ∀ (xs : List α) (acc : List U),
    (∀ x ∈ xs, g (c x) ρ h = .ok (G x) h ∧ t (G x) h = .ok (p x) h ∧ (p x = true → e (G x) h = .ok (f x) h)) → acc.length + xs.length ≤ sizeLine →
    compGo s g t e ρ (xs.map c) h acc = .ok (acc ++ (xs.filter p).map f) h
  | [], acc, _, _ => by rw [List.map_nil, compGo_nil a]; simp
  | x :: xs, acc, hx, hl => by
    obtain ⟨h1, h2, h3⟩ := hx x (by simp)
    have hl : acc.length + (xs.length + 1) ≤ sizeLine := hl
    rw [List.map_cons, compGo_cons a, h1, cmp1_ok, h2, cmp2_ok]
    cases q : p x with
    | true =>
      rw [if_pos rfl, h3 q, cmp3_ok, if_pos (by omega), compGo_map c G p f a xs _ (fun y hy => hx y (by simp [hy])) (by rw [List.length_append]; simp only [List.length_cons, List.length_nil]; omega)]
      simp [q]
    | false =>
      rw [if_neg (by simp), compGo_map c G p f a xs _ (fun y hy => hx y (by simp [hy])) (by omega)]
      simp [q]
/-! ### methods of lists, membership -/
def lstO (n : Nat) : Option O → Option (Nat × List U)
  | some (.lst xs) => some (n, xs)
  | _ => none
section
variable (ρ : Env) (h : IH) (x u v : U) (xs ys us : List U) (n : Nat)
@[simp] theorem lstO_s : lstO n (some (.lst xs)) = some (n, xs) := rfl
@[simp] theorem lstAt_r : lstAt h (.ref n) = lstO n h[n]? := by
  unfold lstAt lstO
  dsimp only
  all_goals (rcases h[n]? with _ | o)
  all_goals first | rfl | (cases o <;> rfl)
def bm2 (o : U → List U → IH → R U) (x : U) (r : R (List U)) : R U := r.bind fun xs h => o x xs h
@[simp] theorem bm2_ok (o : U → List U → IH → R U) : bm2 o x (.ok xs h) = o x xs h := rfl
def bm1 (o : U → List U → IH → R U) (g : AM) (ρ : Env) (r : R U) : R U := r.bind fun x h => if (lstAt h x).isSome = true then bm2 o x (g ρ h) else .bad
@[simp] theorem bm1_ok (o : U → List U → IH → R U) (g : AM) : bm1 o g ρ (.ok x h) = if (lstAt h x).isSome = true then bm2 o x (g ρ h) else .bad := rfl
@[simp] theorem bmE_e (o : U → List U → IH → R U) (f : EM) (g : AM) : bmE o f g ρ h = bm1 o g ρ (f ρ h) := rfl
theorem appU_e {n : Nat} {xs : List U} (e : h[n]? = some (.lst xs)) (l : xs.length < 16777216) : appU (.ref n) [u] h = .ok .non (h.set n (.lst (xs ++ [u]))) := by
  unfold appU
  rw [lstAt_r, e, lstO_s]
  dsimp only
  rw [if_pos (by rw [sizeL]; exact l)]
/-- x in a row -/
def hasV (neg : Bool) (h : IH) (tup : Bool) : Option PyData → Option (List PyData) → R U
  | some d, some ds => if SeqAt.shaped d = true ∧ SeqAt.shaped (if tup then .tuple ds else .list ds) = true then .ok (.bl (if neg then !ds.any fun z => PyData.eqv z d else ds.any fun z => PyData.eqv z d)) h else .bad
  | _, _ => .bad
theorem hasU_t (neg : Bool) : hasU neg x (.tup ys) h = hasV neg h true (tD h x) (pDs ys) := by
  have e : tD h (.tup ys) = (pDs ys).map .tuple := rfl
  unfold hasU hasV
  cases x <;> (dsimp only; rw [e]; cases pDs ys <;> (try rfl))
  all_goals (first | (cases tD h _ <;> rfl) | skip)
theorem hasU_l (neg : Bool) : hasU neg x (.lst ys) h = hasV neg h false (tD h x) (pDs ys) := by
  have e : tD h (.lst ys) = (pDs ys).map .list := rfl
  unfold hasU hasV
  cases x <;> (dsimp only; rw [e]; cases pDs ys <;> (try rfl))
  all_goals (first | (cases tD h _ <;> rfl) | skip)
theorem hasV_e (neg tup : Bool) {d : PyData} {ds : List PyData} (sd : SeqAt.shaped d = true) (se : SeqAt.shaped (if tup then .tuple ds else .list ds) = true) : hasV neg h tup (some d) (some ds) = .ok (.bl (if neg then !ds.any fun z => PyData.eqv z d else ds.any fun z => PyData.eqv z d)) h := if_pos ⟨sd, se⟩
end
@[simp] theorem nth_1 (h : IH) (a b : U) (xs : List U) : nthU (a :: b :: xs) 1 h = .ok b h := nth_n h _ 1
@[simp] theorem nth_2 (h : IH) (a b c : U) (xs : List U) : nthU (a :: b :: c :: xs) 2 h = .ok c h := nth_n h _ 2
@[simp] theorem nth_3 (h : IH) (a b c d : U) (xs : List U) : nthU (a :: b :: c :: d :: xs) 3 h = .ok d h := nth_n h _ 3
@[simp] theorem nth_4 (h : IH) (a b c d e : U) (xs : List U) : nthU (a :: b :: c :: d :: e :: xs) 4 h = .ok e h := nth_n h _ 4
/-! ### dicts -/
def dispK (h g : IH) : Option (List (Key × U)) → R U
  | some kvs => if kvs.length ≤ 15 then .ok (.ref h.length) (h ++ .dk (mergeD [] kvs) :: g) else .bad
  | none => .bad
@[simp] theorem dispK_s (h g : IH) (kvs : List (Key × U)) : dispK h g (some kvs) = if kvs.length ≤ 15 then .ok (.ref h.length) (h ++ .dk (mergeD [] kvs) :: g) else .bad := rfl
@[simp] theorem dispV_s (h g : IH) (ps : List (U × U)) : dispV h.length ps (h ++ .dk [] :: g) = dispK h g (keyed ps) := by
  unfold dispV dispK
  cases keyed ps with
  | none => simp
  | some kvs => simp
@[simp] theorem keyed_0 : keyed [] = some [] := rfl
@[simp] theorem keyed_s (s : Str) (y : U) (r : List (U × U)) : keyed ((.str s, y) :: r) = (keyed r).map ((.inr s, y) :: ·) := by
  show (match keyOf (.str s), keyed r with | some k, some t => some ((k, y) :: t) | _, _ => none) = _
  cases keyed r <;> rfl
def dg4 (y z : U) (h : IH) : Option O → R U
  | some (.dk kvs) => match keyOf y with
    | some k => .ok ((getD kvs k).getD z) h
    | none => .bad
  | _ => .bad
def dg3 (n : Nat) (y : U) (r : R U) : R U := r.bind fun z h => dg4 y z h h[n]?
def dg2 (n : Nat) (k : EM) (ρ : Env) (r : R U) : R U := r.bind fun y h => dg3 n y (k ρ h)
def dgD (n : Nat) (g k : EM) (ρ : Env) (h : IH) : Option O → R U
  | some (.dk _) => dg2 n k ρ (g ρ h)
  | _ => .bad
def dg0 (g k : EM) (ρ : Env) (x : U) (h : IH) : R U := match x with
  | .ref n => dgD n g k ρ h h[n]?
  | _ => .bad
def dg1 (g k : EM) (ρ : Env) (r : R U) : R U := r.bind fun x h => dg0 g k ρ x h
section
variable (g k : EM) (ρ : Env) (h : IH) (n : Nat) (y z : U) (kvs : List (Key × U)) (s : Str)
@[simp] theorem dg4_s : dg4 (.str s) z h (some (.dk kvs)) = .ok ((getD kvs (.inr s)).getD z) h := rfl
@[simp] theorem dg3_ok : dg3 n y (.ok z h) = dg4 y z h h[n]? := rfl
@[simp] theorem dg2_ok : dg2 n k ρ (.ok y h) = dg3 n y (k ρ h) := rfl
@[simp] theorem dgD_s : dgD n g k ρ h (some (.dk kvs)) = dg2 n k ρ (g ρ h) := rfl
@[simp] theorem dg1_ok : dg1 g k ρ (.ok (.ref n) h) = dgD n g k ρ h h[n]? := rfl
@[simp] theorem dget2_e (f : EM) : dget2 f g k ρ h = dg1 g k ρ (f ρ h) := by
  unfold dget2 dg1 dg0 dgD dg2 dg3 dg4
  congr 1
  funext x h1
  cases x with
  | ref n =>
    dsimp only
    rcases h1[n]? with _ | o
    · rfl
    · cases o with
      | dk kvs =>
        dsimp only
        congr 1
        funext y h2
        congr 1
        funext z h3
        rcases h3[n]? with _ | o
        · rfl
        · cases o with
          | dk kvs => dsimp only; cases keyOf y <;> rfl
          | _ => rfl
      | _ => rfl
  | _ => rfl
end
/-! ### what a call gives back of its own lists -/
theorem lows_mono {n m : Nat} (l : n ≤ m) : ∀ {xs : List U}, lows n xs = true → lows m xs = true
  | [], _ => rfl
  | x :: xs, e => by
    have e : (low n x && lows n xs) = true := e
    rw [Bool.and_eq_true] at e
    show (low m x && lows m xs) = true
    rw [Bool.and_eq_true]
    refine ⟨?_, lows_mono l e.2⟩
    exact lowM x e.1
where
  lowM : ∀ (x : U), low n x = true → low m x = true
  | .ref k, e => by
    have e : decide (k < n) = true := e
    show decide (k < m) = true
    have := of_decide_eq_true e
    exact decide_eq_true (by omega)
  | .tup xs, e => lows_mono l (xs := xs) e
  | .lst xs, e => lows_mono l (xs := xs) e
  | .scr xs, e => lows_mono l (xs := xs) e
  | .exc _ u, e => lowM u e
  | .dic _ xs, e => lows_mono l (xs := xs) e
  | .non, _ => rfl
  | .bl _, _ => rfl
  | .int _, _ => rfl
  | .str _, _ => rfl
  | .adr _, _ => rfl
theorem pop_frz {F : List U → IH → R U} {us : List U} {h h' : IH} {u u' : U} (e : F us h = .ok u h') (k : Kpt h h') (ef : frz h' h.length 3 u = u') (l : low h.length u' = true) : popF F us h = .ok u' (h'.take h.length) := by
  unfold popF pop
  rw [e]
  dsimp only
  rw [ef, if_pos ⟨k, l⟩]
/-- .. one list -/
theorem pop_list {F : List U → IH → R U} {us : List U} {h g : IH} {k : Nat} {xs : List U} (e : F us h = .ok (.ref k) (h ++ g)) (hk : h.length ≤ k) (eg : (h ++ g)[k]? = some (.lst xs)) (l : lows h.length xs = true) : popF F us h = .ok (.lst xs) h := by
  have ef : frz (h ++ g) h.length 3 (.ref k) = .lst xs := by
    show (if k < h.length then U.ref k else match (h ++ g)[k]? with | some (.lst xs) => .lst (xs.map (frz (h ++ g) h.length 2)) | _ => .ref k) = _
    rw [if_neg (by omega), eg]
    dsimp only
    rw [map_same fun x hx => frz_low 2 (lows_all.mp l x hx)]
  rw [pop_frz e kpt_grow ef l, List.take_left]
end PD

set_option Elab.async false
set_option linter.all false
set_option maxRecDepth 100000
set_option maxHeartbeats 4000000
namespace PD.K76
open PySem PySem.Spec PyProof.Rows L2
variable (G : Glb)
/-- a name: a root, or a weak one -/
def nmU (p : Bool × Nat) : U := .tup [.str (if p.1 = true then "root" else "weak"), .int p.2]
def _root_.PD.D.wd (d : D) : Str := match d with
  | .new _ _ _ => "new"
  | .copy _ _ => "copy"
  | .clear _ => "clear"
  | .link _ _ _ => "link"
  | .follow _ _ _ => "follow"
  | .write _ _ _ => "write"
  | .read _ _ => "read"
  | .same _ _ => "same"
  | .shape _ => "shape"
  | .weak _ _ => "weak"
  | .look _ _ => "look"
  | .wish _ => "wish"
  | .next _ => "next"
  | .gather => "gather"
theorem named_by_e (d : D) (h : IH) : f_named_by G [d.u] h = .ok (.lst (d.names.map nmU)) h := by
  refine pop_list (k := h.length) (g := [.lst (d.names.map nmU)]) ?_ (Nat.le_refl _) (by simp) (by cases d <;> rfl)
  rw [fnR_e]
  cases d <;>
  simp [c_named_by, D.u, D.us, D.names, nmU, tab_k, lk_new, lk_copy, lk_clear, lk_link, lk_follow, lk_write, lk_read, lk_same, lk_shape, lk_weak, lk_look, lk_wish, lk_next, lk_gather, zipV, so_rpp, so_rr, so_r, so_rir, so_rri, so_rin, so_ri, so_ir, so_0, cut_1, zipP, wipeE, eqU_s, appU_e]
theorem changed_by_e (d : D) (h : IH) : f_changed_by G [d.u] h = .ok (.lst (d.chg.map nmU)) h := by
  refine pop_same ?_ (by cases d <;> rfl)
  rw [fnR_e]
  cases d <;>
  simp [c_changed_by, D.u, D.us, D.chg, nmU, eqU_s, hasU_t, hasV, tD, pD, pDs, SeqAt.shaped, PyData.canLay0, PyData.canLayAll0, PyData.depth, PyData.depthAll]
theorem law_names_e (d : D) (h : IH) : f_u_law_names G [d.u] h = .ok (.tup [.lst (d.names.map nmU), .lst (d.chg.map nmU)]) h := by
  refine pop_grow (g := [.dk [(.inr "new", .int 1), (.inr "copy", .int 2), (.inr "clear", .int 1), (.inr "write", .int 1), (.inr "read", .int 1), (.inr "same", .int 2), (.inr "shape", .int 1), (.inr "wish", .int 1), (.inr "next", .int 1)]]) ?_ (by cases d <;> rfl)
  rw [fnR_e]
  cases d <;>
  simp [c_u_law_names, D.u, D.us, D.names, D.chg, nmU, eqU_s, hasU_t, hasV, tD, pD, pDs, SeqAt.shaped, PyData.canLay0, PyData.canLayAll0, PyData.depth, PyData.depthAll, mergeD, putD, getD, cut, HT.sIx, wipeE]
def nmD (p : Bool × Nat) : PyData := .tuple [.str (if p.1 = true then "root" else "weak"), .int p.2]
theorem tD_nm (p : Bool × Nat) (h : IH) : tD h (nmU p) = some (nmD p) := by
  obtain ⟨k, r⟩ := p
  cases k <;> simp [nmU, nmD, tD, pD, pDs]
theorem pDs_nm : ∀ ps : List (Bool × Nat), pDs (ps.map nmU) = some (ps.map nmD)
  | [] => rfl
  | p :: ps => by
    have e : pD (nmU p) = some (nmD p) := tD_nm p []
    show (match pD (nmU p), pDs (ps.map nmU) with | some d, some ds => some (d :: ds) | _, _ => none) = _
    rw [e, pDs_nm ps]
    rfl
theorem lay_nm (p : Bool × Nat) : PyData.canLay0 (nmD p) = true ∧ PyData.depth (nmD p) ≤ 2 := by
  obtain ⟨k, r⟩ := p
  cases k <;> simp [nmD, PyData.canLay0, PyData.canLayAll0, PyData.depth, PyData.depthAll]
theorem lay_nms : ∀ ps : List (Bool × Nat), PyData.canLayAll0 (ps.map nmD) = true ∧ PyData.depthAll (ps.map nmD) ≤ 2
  | [] => by simp [PyData.canLayAll0, PyData.depthAll]
  | p :: ps => by
    have a := lay_nm p
    have b := lay_nms ps
    simp only [List.map_cons, PyData.canLayAll0, PyData.depthAll, a.1, b.1]
    exact ⟨rfl, by omega⟩
theorem eqv_nm (p q : Bool × Nat) : PyData.eqv (nmD p) (nmD q) = (p == q) := by
  obtain ⟨k, r⟩ := p
  obtain ⟨l, s⟩ := q
  rw [Bool.eq_iff_iff]
  cases k <;> cases l <;> simp [nmD, PyData.eqv, PyData.eqvAll] <;> omega
theorem has_nm (p : Bool × Nat) (ps : List (Bool × Nat)) (h : IH) : hasU false (nmU p) (.lst (ps.map nmU)) h = .ok (.bl (ps.contains p)) h := by
  have a := lay_nm p
  have b := lay_nms ps
  rw [hasU_l, tD_nm, pDs_nm, hasV_e]
  · simp only [Bool.false_eq_true, if_false, List.any_map, Function.comp_def, eqv_nm, List.contains_eq_any_beq]
    congr 2
    congr 1
    funext x
    exact Bool.beq_comm
  · simp [SeqAt.shaped, a.1]; omega
  · simp [SeqAt.shaped, PyData.canLay0, PyData.depth, b.1]; omega
theorem wd_at (tab : Addr → Option (List (Str × U))) (d : D) (h : IH) : sbU tab d.u (.int 0) h = .ok (.str d.wd) h := by
  cases d <;> simp [D.u, D.us, D.wd]
theorem wd_ok (d : D) : PyData.strOk d.wd = true := by cases d <;> simp [D.wd]
def lsB (d : D) : Bool := d.wd == "wish" || d.wd == "next"
def hp (d e : D) : Bool := (d.wd == "link" && (e.wd == "link" || e.wd == "follow")) || (d.wd == "write" && (e.wd == "write" || e.wd == "read"))
def clashB (d e : D) : Bool := (d.wd == "gather" || e.wd == "gather") || (lsB d && lsB e) || (hp d e || hp e d) || (d.chg.any (e.names.contains ·) || e.chg.any (d.names.contains ·))
theorem cg_has {ys : List U} {ρ : Env} {h : IH} {i j : Nat} {ps qs : List (Bool × Nat)} (hj : ρ[j]? = some (some (.lst (qs.map nmU)))) (hi : i < ρ.length) (hij : i ≠ j) (l : ps.length ≤ 16777216) :
    compGo { items := ys } (nmG i) yesB (bin (hasU false) (vE i) (vE j)) ρ (ps.map nmU) h [] = .ok (ps.map fun p => .bl (qs.contains p)) h := by
  rw [compGo_map nmU (fun p => ρ.set i (some (nmU p))) (fun _ => true) (fun p => .bl (qs.contains p)) At_nil ps [] (fun p hp => ⟨rfl, rfl, fun _ => ?_⟩) (by simpa using l)]
  · rw [List.filter_eq_self.mpr (by simp)]; rfl
  · rw [bin_e, vE_g (u := nmU p) (h := h) (by simp [hi]), bin1_ok, vE_g (u := .lst (qs.map nmU)) (h := h) (by rw [List.getElem?_set_ne hij, hj]), bin2_ok, has_nm]
theorem cg_4 {ys : List U} {h : IH} {a0 a1 a2 a3 a5 a6 : Option U} {ps qs : List (Bool × Nat)} (l : ps.length ≤ 16777216) :
    compGo { items := ys } (nmG 6) yesB (bin (hasU false) (vE 6) (vE 4)) [a0, a1, a2, a3, some (.lst (qs.map nmU)), a5, a6] (ps.map nmU) h [] = .ok (ps.map fun p => .bl (qs.contains p)) h := cg_has rfl (by simp) (by simp) l
theorem cg_3 {ys : List U} {h : IH} {a0 a1 a2 a4 a5 a6 : Option U} {ps qs : List (Bool × Nat)} (l : ps.length ≤ 16777216) :
    compGo { items := ys } (nmG 6) yesB (bin (hasU false) (vE 6) (vE 3)) [a0, a1, a2, some (.lst (qs.map nmU)), a4, a5, a6] (ps.map nmU) h [] = .ok (ps.map fun p => .bl (qs.contains p)) h := cg_has rfl (by simp) (by simp) l
theorem chg_len (d : D) : d.chg.length ≤ 16777216 := by cases d <;> simp [D.chg]
theorem wd_c (s : String) (d : D) : (Str.ofString s = d.wd) = (d.wd = Str.ofString s) := propext ⟨Eq.symm, Eq.symm⟩
theorem beq_eq_decide_ (a b : Str) : (a == b) = decide (a = b) := by
  rw [Bool.eq_iff_iff, beq_iff_eq, decide_eq_true_iff]
theorem do_clash_e (d e : D) (h : IH) : f_do_clash G [d.u, e.u] h = .ok (.bl (clashB d e)) h := by
  refine pop_same ?_ rfl
  rw [fnR_e]
  simp [c_do_clash, wd_at, wd_ok, named_by_e, changed_by_e, hasU_t, hasV, tD, pD, pDs, SeqAt.shaped, PyData.canLay0, PyData.canLayAll0, PyData.depth, PyData.depthAll, wipeE, PyData.eqv, PyData.eqvAll, bools, cg_3, cg_4, chg_len, -List.map_map, -List.contains_eq_mem]
  simp only [clashB, lsB, hp, wd_c, beq_eq_decide_, Bool.and_or_distrib_left, Bool.or_assoc]
  rfl
theorem cgf_has {ys : List U} {ρ : Env} {h : IH} {i j : Nat} {ps qs : List (Bool × Nat)} (hj : ρ[j]? = some (some (.lst (qs.map nmU)))) (hi : i < ρ.length) (hij : i ≠ j) (l : ps.length ≤ 16777216) :
    compGo { items := ys } (nmG i) (asB (bin (hasU false) (vE i) (vE j))) (vE i) ρ (ps.map nmU) h [] = .ok ((ps.filter fun p => qs.contains p).map nmU) h := by
  rw [compGo_map nmU (fun p => ρ.set i (some (nmU p))) (fun p => qs.contains p) nmU At_nil ps [] (fun p hp => ⟨rfl, ?_, fun _ => ?_⟩) (by simpa using l)]
  · rfl
  · rw [asB_e, bin_e, vE_g (u := nmU p) (h := h) (by simp [hi]), bin1_ok, vE_g (u := .lst (qs.map nmU)) (h := h) (by rw [List.getElem?_set_ne hij, hj]), bin2_ok, has_nm]
    rfl
  · rw [vE_g (u := nmU p) (h := h) (by simp [hi])]
theorem cgf_7 {ys : List U} {h : IH} {a0 a1 a2 a3 a4 a5 a6 a8 a9 : Option U} {ps qs : List (Bool × Nat)} (l : ps.length ≤ 16777216) :
    compGo { items := ys } (nmG 9) (asB (bin (hasU false) (vE 9) (vE 7))) (vE 9) [a0, a1, a2, a3, a4, a5, a6, some (.lst (qs.map nmU)), a8, a9] (ps.map nmU) h [] = .ok ((ps.filter fun p => qs.contains p).map nmU) h := cgf_has rfl (by simp) (by simp) l
theorem cgf_5 {ys : List U} {h : IH} {a0 a1 a2 a3 a4 a6 a7 a8 a9 : Option U} {ps qs : List (Bool × Nat)} (l : ps.length ≤ 16777216) :
    compGo { items := ys } (nmG 9) (asB (bin (hasU false) (vE 9) (vE 5))) (vE 9) [a0, a1, a2, a3, a4, some (.lst (qs.map nmU)), a6, a7, a8, a9] (ps.map nmU) h [] = .ok ((ps.filter fun p => qs.contains p).map nmU) h := cgf_has rfl (by simp) (by simp) l
theorem ne_nil (ps : List (Bool × Nat)) (q : Bool × Nat → Bool) (h : IH) : eqU true (.lst ((ps.filter q).map nmU)) (.lst []) h = .ok (.bl (ps.any q)) h := by
  have b := lay_nms (ps.filter q)
  have e : tD h (.lst ((ps.filter q).map nmU)) = some (.list ((ps.filter q).map nmD)) := by
    show (pDs _).map PyData.list = _
    rw [pDs_nm]; rfl
  rw [eqU_d true e (e := .list []) rfl (by simp [SeqAt.shaped, PyData.canLay0, PyData.depth, b.1]; omega) (by simp [SeqAt.shaped, PyData.canLay0, PyData.canLayAll0, PyData.depth, PyData.depthAll])]
  simp only [if_true]
  congr 2
  rw [Bool.eq_iff_iff]
  cases z : ps.filter q with
  | nil =>
    have := List.filter_eq_nil_iff.mp z
    have z2 : ps.any q = false := List.any_eq_false.mpr this
    simp [PyData.eqv, PyData.eqvAll, z2]
  | cons p r =>
    have m : p ∈ ps.filter q := by rw [z]; simp
    rw [List.mem_filter] at m
    have z2 : ps.any q = true := List.any_eq_true.mpr ⟨p, m⟩
    simp [PyData.eqv, PyData.eqvAll, z2]
theorem law_clash_e (d e : D) (h : IH) : f_u_law_clash G [d.u, e.u] h = .ok (.bl (clashB d e)) h := by
  refine pop_same ?_ rfl
  rw [fnR_e]
  simp [c_u_law_clash, wd_at, wd_ok, law_names_e, hasU_t, hasV, tD, pD, pDs, SeqAt.shaped, PyData.canLay0, PyData.canLayAll0, PyData.depth, PyData.depthAll, wipeE, PyData.eqv, PyData.eqvAll, bools, eqU_s, cgf_5, cgf_7, ne_nil, chg_len, -List.map_map, -List.contains_eq_mem]
  simp only [clashB, lsB, hp, wd_c, beq_eq_decide_, Bool.and_or_distrib_left, Bool.or_assoc]
end PD.K76

set_option Elab.async false
set_option linter.all false
set_option maxRecDepth 100000
set_option maxHeartbeats 4000000
namespace PD
open PySem PySem.Spec PyProof.Rows L2
/-! ### data that may be shown -/
mutual
def nice : PyData → Bool
  | .none => true
  | .bool _ => true
  | .int i => decide (i.natAbs < 2 ^ 30)
  | .str x => PyData.strOk x && PyData.strOk (reprText x) && decide (x.cps.size ≤ 30)
  | .list xs => nices xs
  | .tuple xs => nices xs
  | .dict _ => false
def nices : List PyData → Bool
  | [] => true
  | x :: xs => nice x && nices xs
end
mutual
def cells : PyData → Nat
  | .list xs => cellss xs
  | .tuple xs => cellss xs
  | _ => 1
def cellss : List PyData → Nat
  | [] => 1
  | x :: xs => cells x + cellss xs
end
theorem app_ok {a b : Str} (ha : PyData.strOk a = true) (hb : PyData.strOk b = true) : PyData.strOk (a ++ b) = true := by
  unfold PyData.strOk at *
  have e : (a ++ b).cps = a.cps ++ b.cps := rfl
  rw [e, Array.all_append, ha, hb]
  rfl
theorem textFrom_ok : ∀ (ts : List Str) (k : Nat) (acc : Str), PyData.strOk acc = true → (∀ t ∈ ts, PyData.strOk t = true) → PyData.strOk (textFrom k acc ts) = true
  | [], _, _, h, _ => h
  | t :: r, k, acc, h, ht => textFrom_ok r (k + 1) _ (app_ok (app_ok h (ofs_ok _)) (ht t (by simp))) fun x hx => ht x (by simp [hx])
theorem join_ok : ∀ (ts : List Str), (∀ t ∈ ts, PyData.strOk t = true) → PyData.strOk (Str.join ", " ts) = true
  | [], _ => ofs_ok ""
  | [x], h => h x (by simp)
  | x :: y :: r, h => app_ok (app_ok (h x (by simp)) (ofs_ok ", ")) (join_ok (y :: r) fun t ht => h t (by simp [ht]))
mutual
theorem nice_lay : ∀ d : PyData, nice d = true → PyData.canLay0 d = true ∧ PyData.intsShort 13 d = true ∧ PyData.showable d = true ∧ PyData.strOk d.shown = true ∧ PyData.weight d + 1 ≤ 41 * cells d
  | .none, _ => ⟨rfl, rfl, rfl, ofs_ok _, (by decide)⟩
  | .bool b, _ => by
    refine ⟨rfl, rfl, rfl, ?_, (show 0 + 1 ≤ 41 * 1 by decide)⟩
    cases b <;> exact ofs_ok _
  | .int i, h => by
    have h : i.natAbs < 2 ^ 30 := of_decide_eq_true h
    have l : i.natAbs.log2 < 31 := by
      by_cases z : i.natAbs = 0
      · rw [z]; decide
      · rw [Nat.log2_lt z]; omega
    refine ⟨rfl, decide_eq_true (PyData.shown_int_le (by omega)), decide_eq_true (by omega), ofs_ok _, ?_⟩
    show (if (i == 0) = true then 0 else i.natAbs.log2 + 1) + 1 ≤ 41 * 1
    split <;> omega
  | .str x, h => by
    unfold nice at h
    simp only [Bool.and_eq_true, decide_eq_true_eq] at h
    exact ⟨h.1.1, rfl, rfl, h.1.2, show x.cps.size + 1 ≤ 41 * 1 by omega⟩
  | .list xs, h => by
    obtain ⟨a, b, c, d, e⟩ := nices_lay xs h
    exact ⟨a, b, c, app_ok (textFrom_ok _ 0 _ (ofs_ok _) d) (ofs_ok _), e⟩
  | .tuple xs, h => by
    obtain ⟨a, b, c, d, e⟩ := nices_lay xs h
    exact ⟨a, b, c, app_ok (app_ok (ofs_ok _) (join_ok _ d)) (ofs_ok _), e⟩
  | .dict _, h => by cases h
theorem nices_lay : ∀ ds : List PyData, nices ds = true → PyData.canLayAll0 ds = true ∧ PyData.intsShortAll 13 ds = true ∧ PyData.showableAll ds = true ∧ (∀ t ∈ PyData.shownAll ds, PyData.strOk t = true) ∧ PyData.weightAll ds + 1 ≤ 41 * cellss ds
  | [], _ => ⟨rfl, rfl, rfl, fun t ht => (by cases ht), (by decide)⟩
  | x :: xs, h => by
    have h : (nice x && nices xs) = true := h
    rw [Bool.and_eq_true] at h
    obtain ⟨a, b, c, d, e⟩ := nice_lay x h.1
    obtain ⟨a2, b2, c2, d2, e2⟩ := nices_lay xs h.2
    refine ⟨?_, ?_, ?_, fun t ht => ?_, ?_⟩
    · show (PyData.canLay0 x && PyData.canLayAll0 xs) = true
      rw [a, a2]; rfl
    · show (PyData.intsShort 13 x && PyData.intsShortAll 13 xs) = true
      rw [b, b2]; rfl
    · show (PyData.showable x && PyData.showableAll xs) = true
      rw [c, c2]; rfl
    · have ht : t ∈ x.shown :: PyData.shownAll xs := ht
      rcases List.mem_cons.mp ht with rfl | ht
      · exact d
      · exact d2 t ht
    · show PyData.weight x + 1 + PyData.weightAll xs + 1 ≤ 41 * (cells x + cellss xs)
      omega
end
theorem reprU_e {u : U} {d : PyData} {h : IH} (hd : tD h u = some d) (n : nice d = true) (dp : d.depth ≤ 64) (w : cells d ≤ 20000) : reprU u h = .ok (.str d.shown) h ∧ PyData.strOk d.shown = true := by
  obtain ⟨a, b, c, e, f⟩ := nice_lay d n
  refine ⟨?_, e⟩
  have sh : SeqAt.shaped d = true := by
    unfold SeqAt.shaped
    rw [a]; simpa using dp
  have l : PyData.layable0 d = true := by
    unfold PyData.layable0
    rw [a]
    simp only [Bool.true_and, Bool.and_eq_true, decide_eq_true_eq]
    exact ⟨dp, by omega⟩
  have := PyData.shown_fits_of_layable0 (B := 13) (by decide) (by decide) l b
  unfold reprU
  rw [hd]
  dsimp only
  rw [if_pos ⟨sh, c, this⟩]
end PD

set_option Elab.async false
set_option linter.all false
set_option maxRecDepth 100000
set_option maxHeartbeats 4000000
namespace PD
open PySem PySem.Spec PyProof.Rows L2
/-! ### the plain store, laid among objects -/
def oU : Option Nat → U
  | none => .non
  | some x => .int x
def nU (x : Nat) : U := .int x
def An.u : An → U
  | .no => .str "no"
  | .non => .non
  | .int i => .int i
  | .bl b => .bl b
  | .two a b => .tup [.int a, .int b]
def Pic.u (p : Pic) : U := .tup [.tup (p.root.map oU), .tup (p.weak.map oU), .tup (p.wish.map nU), .tup (p.queue.map nU), .tup (p.objs.map fun o => .tup [.tup (o.1.map oU), .tup (o.2.1.map U.int), .bl o.2.2])]
/-- who stands at a place -/
inductive Ro where
  | sto | root | weak | wish | queue | objs | ob (i : Nat) | ln (i : Nat) | nu (i : Nat)
deriving DecidableEq
def Ro.ok (n : Nat) : Ro → Prop
  | .ob i => i < n
  | .ln i => i < n
  | .nu i => i < n
  | _ => True
def stoK (p : Ro → Nat) : List (Key × U) := [(.inr "root", .ref (p .root)), (.inr "weak", .ref (p .weak)), (.inr "wish", .ref (p .wish)), (.inr "queue", .ref (p .queue)), (.inr "objects", .ref (p .objs))]
def con (p : Ro → Nat) (s : S) : Ro → O
  | .sto => .dk (stoK p)
  | .root => .lst (s.root.map oU)
  | .weak => .lst (s.weak.map oU)
  | .wish => .lst (s.wish.map nU)
  | .queue => .lst (s.queue.map nU)
  | .objs => .lst ((List.range s.lks.length).map fun i => .ref (p (.ob i)))
  | .ob i => .lst [.ref (p (.ln i)), .ref (p (.nu i)), .bl (s.mk_ i)]
  | .ln i => .lst ((s.lk i).map oU)
  | .nu i => .lst ((s.nm i).map U.int)
structure Rep (h : IH) (b : Nat) (p : Ro → Nat) (s : S) : Prop where
  at_ : ∀ r : Ro, r.ok s.lks.length → h[p r]? = some (con p s r)
  inj : ∀ r q : Ro, r.ok s.lks.length → q.ok s.lks.length → p r = p q → r = q
  ge : ∀ r : Ro, r.ok s.lks.length → b ≤ p r
section
variable {h : IH} {b : Nat} {p : Ro → Nat} {s : S}
theorem Rep.lt (R : Rep h b p s) {r : Ro} (hr : r.ok s.lks.length) : p r < h.length := (List.getElem?_eq_some_iff.mp (R.at_ r hr)).1
theorem Rep.app (R : Rep h b p s) (g : IH) : Rep (h ++ g) b p s := ⟨fun r hr => by rw [List.getElem?_append_left (R.lt hr)]; exact R.at_ r hr, R.inj, R.ge⟩
theorem Rep.set (R : Rep h b p s) {r : Ro} (hr : r.ok s.lks.length) {t : S} (len : t.lks.length = s.lks.length) (ho : ∀ q : Ro, q.ok s.lks.length → q ≠ r → con p t q = con p s q) : Rep (h.set (p r) (con p t r)) b p t := by
  refine ⟨fun q hq => ?_, by rw [len]; exact R.inj, by rw [len]; exact R.ge⟩
  rw [len] at hq
  by_cases e : q = r
  · subst e
    rw [List.getElem?_set_self (R.lt hr)]
  · rw [List.getElem?_set_ne fun z => e (R.inj _ _ hr hq z).symm, ho q hq e]
    exact R.at_ q hq
/-- an object of its own comes to it -/
def plc (p : Ro → Nat) (r : Ro) (n : Nat) : Ro → Nat := fun q => if q = r then n else p q
/-- a list of the store is laid anew -/
theorem Rep.move (R : Rep h b p s) {r : Ro} (hr : r = .weak ∨ r = .wish ∨ r = .queue) {t : S} (hb : b ≤ h.length) (len : t.lks.length = s.lks.length) (ho : ∀ q : Ro, q ≠ r → q ≠ .sto → con (plc p r h.length) t q = con p s q) {g : IH} :
    Rep ((h ++ con p t r :: g).set (p .sto) (.dk (stoK (plc p r h.length)))) b (plc p r h.length) t := by
  have rk : ∀ n, r.ok n := by rcases hr with rfl | rfl | rfl <;> intro n <;> trivial
  have rs : r ≠ .sto := by rcases hr with rfl | rfl | rfl <;> simp
  refine ⟨fun q hq => ?_, fun q z hq hz e => ?_, fun q hq => ?_⟩
  · rw [len] at hq
    by_cases e : q = r
    · subst e
      rw [show plc p q h.length q = h.length by simp [plc]]
      have := R.lt (r := .sto) trivial
      rw [List.getElem?_set_ne (by omega)]
      simp
      rcases hr with rfl | rfl | rfl <;> rfl
    · rw [show plc p r h.length q = p q by simp [plc, e]]
      by_cases e2 : q = .sto
      · subst e2
        rw [List.getElem?_set_self (by have := R.lt (r := .sto) trivial; simp; omega)]
        rfl
      · rw [List.getElem?_set_ne fun z => e2 (R.inj .sto q trivial hq z).symm, List.getElem?_append_left (R.lt hq), ho q e e2]
        exact R.at_ q hq
  · rw [len] at hq hz
    unfold plc at e
    split at e <;> split at e
    · rename_i a b; rw [a, b]
    · have := R.lt hz; omega
    · have := R.lt hq; omega
    · exact R.inj _ _ hq hz e
  · rw [len] at hq
    unfold plc
    split
    · exact hb
    · exact R.ge q hq
def plN (p : Ro → Nat) (n l : Nat) : Ro → Nat := plc (plc (plc p (.ln n) l) (.nu n) (l + 1)) (.ob n) (l + 2)
/-- an object is new -/
theorem Rep.new (R : Rep h b p s) (w : s.WF) (hb : b ≤ h.length) (l : List (Option Nat)) (m : List Int) :
    Rep ((h ++ [O.lst (l.map oU), O.lst (m.map U.int), O.lst [.ref h.length, .ref (h.length + 1), .bl false]]).set (p .objs) (O.lst (((List.range s.lks.length).map fun i => U.ref (p (.ob i))) ++ [.ref (h.length + 2)]))) b
      (plN p s.lks.length h.length) { s with lks := s.lks ++ [l], nms := s.nms ++ [m], mks := s.mks ++ [false] } := by
  have e1 : ∀ i, i < s.lks.length → plN p s.lks.length h.length (.ob i) = p (.ob i) := by intro i hi; simp [plN, plc]; omega
  have e2 : ∀ i, i < s.lks.length → plN p s.lks.length h.length (.ln i) = p (.ln i) := by intro i hi; simp [plN, plc]; omega
  have e3 : ∀ i, i < s.lks.length → plN p s.lks.length h.length (.nu i) = p (.nu i) := by intro i hi; simp [plN, plc]; omega
  have e4 : plN p s.lks.length h.length (.ob s.lks.length) = h.length + 2 := by simp [plN, plc]
  have e5 : plN p s.lks.length h.length (.ln s.lks.length) = h.length := by simp [plN, plc]
  have e6 : plN p s.lks.length h.length (.nu s.lks.length) = h.length + 1 := by simp [plN, plc]
  have e7 : ∀ q : Ro, (∀ i, q ≠ .ob i) → (∀ i, q ≠ .ln i) → (∀ i, q ≠ .nu i) → plN p s.lks.length h.length q = p q := by
    intro q a b c; simp [plN, plc, a, b, c]
  have old : ∀ q : Ro, q.ok s.lks.length → plN p s.lks.length h.length q = p q := by
    intro q hq
    cases q with
    | ob i => exact e1 i hq
    | ln i => exact e2 i hq
    | nu i => exact e3 i hq
    | _ => exact e7 _ (by simp) (by simp) (by simp)
  have ol := R.lt (r := .objs) trivial
  have nl : ∀ q : Ro, q.ok (s.lks.length + 1) → q.ok s.lks.length ∨ q = .ob s.lks.length ∨ q = .ln s.lks.length ∨ q = .nu s.lks.length := by
    intro q hq
    cases q <;> simp only [Ro.ok] at hq ⊢ <;> (try exact .inl trivial) <;> rename_i i <;> by_cases h : i < s.lks.length
    all_goals first | exact .inl h | (have : i = s.lks.length := by omega); simp [this]
  refine ⟨fun q hq => ?_, fun q z hq hz e => ?_, fun q hq => ?_⟩
  · rcases nl q (by simpa using hq) with k | rfl | rfl | rfl
    · rw [old q k]
      by_cases e : q = .objs
      · subst e
        rw [List.getElem?_set_self (by simp; omega)]
        congr 1
        simp only [con, List.length_append, List.length_singleton, List.range_succ, List.map_append, List.map_cons, List.map_nil, e4]
        congr 2
        exact List.map_congr_left fun i hi => by rw [e1 i (List.mem_range.mp hi)]
      · rw [List.getElem?_set_ne fun z => e (R.inj .objs q trivial k z).symm, List.getElem?_append_left (R.lt k), R.at_ q k]
        congr 1
        cases q with
        | sto => simp only [con, stoK, e7 _ (show ∀ i, Ro.root ≠ .ob i by simp) (by simp) (by simp), e7 _ (show ∀ i, Ro.weak ≠ .ob i by simp) (by simp) (by simp), e7 _ (show ∀ i, Ro.wish ≠ .ob i by simp) (by simp) (by simp), e7 _ (show ∀ i, Ro.queue ≠ .ob i by simp) (by simp) (by simp), e7 _ (show ∀ i, Ro.objs ≠ .ob i by simp) (by simp) (by simp)]
        | objs => exact absurd rfl e
        | ob i =>
          have k : i < s.lks.length := k
          simp only [con, e2 i k, e3 i k, S.mk_]
          rw [List.getElem?_append_left (by rw [w.mks]; exact k)]
        | ln i =>
          have k : i < s.lks.length := k
          simp only [con, S.lk]
          rw [List.getElem?_append_left k]
        | nu i =>
          have k : i < s.lks.length := k
          simp only [con, S.nm]
          rw [List.getElem?_append_left (by rw [w.nms]; exact k)]
        | _ => rfl
    · rw [e4, List.getElem?_set_ne (by omega), List.getElem?_append_right (by omega), show h.length + 2 - h.length = 2 by omega]
      simp only [con, e5, e6, S.mk_]
      rw [← w.mks]
      simp
    · rw [e5, List.getElem?_set_ne (by omega), List.getElem?_append_right (by omega), show h.length - h.length = 0 by omega]
      simp [con, S.lk]
    · rw [e6, List.getElem?_set_ne (by omega), List.getElem?_append_right (by omega), show h.length + 1 - h.length = 1 by omega]
      simp only [con, S.nm]
      rw [← w.nms]
      simp
  · rcases nl q (by simpa using hq) with k | rfl | rfl | rfl <;> rcases nl z (by simpa using hz) with k2 | rfl | rfl | rfl
    · rw [old q k, old z k2] at e; exact R.inj _ _ k k2 e
    all_goals first | rfl | skip
    all_goals (try rw [old _ k] at e) <;> (try rw [old _ k2] at e) <;> (try have i1 := R.lt k) <;> (try have i2 := R.lt k2) <;> simp only [e4, e5, e6] at e <;> omega
  · rcases nl q (by simpa using hq) with k | rfl | rfl | rfl
    · rw [old q k]; exact R.ge q k
    all_goals simp only [e4, e5, e6] <;> omega
end
/-! ### reading it -/
section
variable {h : IH} {b : Nat} {p : Ro → Nat} {s : S} (R : Rep h b p s) (tab : Addr → Option (List (Str × U)))
include R
theorem Rep.sb_root : sbU tab (.ref (p .sto)) (.str "root") h = .ok (.ref (p .root)) h := by
  rw [sb_ref, R.at_ .sto trivial]; simp [con, stoK, getD]
theorem Rep.sb_weak : sbU tab (.ref (p .sto)) (.str "weak") h = .ok (.ref (p .weak)) h := by
  rw [sb_ref, R.at_ .sto trivial]; simp [con, stoK, getD]
theorem Rep.sb_wish : sbU tab (.ref (p .sto)) (.str "wish") h = .ok (.ref (p .wish)) h := by
  rw [sb_ref, R.at_ .sto trivial]; simp [con, stoK, getD]
theorem Rep.sb_queue : sbU tab (.ref (p .sto)) (.str "queue") h = .ok (.ref (p .queue)) h := by
  rw [sb_ref, R.at_ .sto trivial]; simp [con, stoK, getD]
theorem Rep.sb_objs : sbU tab (.ref (p .sto)) (.str "objects") h = .ok (.ref (p .objs)) h := by
  rw [sb_ref, R.at_ .sto trivial]; simp [con, stoK, getD]
theorem Rep.sb_ob {i : Nat} (hi : i < s.lks.length) : sbU tab (.ref (p .objs)) (.int i) h = .ok (.ref (p (.ob i))) h := by
  rw [sb_ref, R.at_ .objs trivial, con, sbO_l]
  exact nth_g _ _ _ _ (by simp [hi])
theorem Rep.sb_0 {i : Nat} (hi : i < s.lks.length) : sbU tab (.ref (p (.ob i))) (.int 0) h = .ok (.ref (p (.ln i))) h := by
  rw [sb_ref, R.at_ (.ob i) hi]; simp [con]
theorem Rep.sb_1 {i : Nat} (hi : i < s.lks.length) : sbU tab (.ref (p (.ob i))) (.int 1) h = .ok (.ref (p (.nu i))) h := by
  rw [sb_ref, R.at_ (.ob i) hi]; simp [con]
theorem Rep.sb_2 {i : Nat} (hi : i < s.lks.length) : sbU tab (.ref (p (.ob i))) (.int 2) h = .ok (.bl (s.mk_ i)) h := by
  rw [sb_ref, R.at_ (.ob i) hi]; simp [con]
theorem Rep.sb_rt {r : Nat} (hr : r < s.root.length) : sbU tab (.ref (p .root)) (.int r) h = .ok (oU (s.rt r)) h := by
  rw [sb_ref, R.at_ .root trivial, con, sbO_l]
  refine nth_g _ _ _ _ ?_
  simp [S.rt, List.getElem?_eq_getElem hr]
theorem Rep.sb_wk {r : Nat} (hr : r < s.weak.length) : sbU tab (.ref (p .weak)) (.int r) h = .ok (oU (s.wk r)) h := by
  rw [sb_ref, R.at_ .weak trivial, con, sbO_l]
  refine nth_g _ _ _ _ ?_
  simp [S.wk, List.getElem?_eq_getElem hr]
end
theorem len_ref {h : IH} {n : Nat} {xs : List U} (e : h[n]? = some (.lst xs)) : lenU (.ref n) h = .ok (.int xs.length) h := by
  unfold lenU
  dsimp only
  rw [e]
theorem src_ref {h : IH} {n : Nat} {xs : List U} (e : h[n]? = some (.lst xs)) : srcW (.ref n) h = .ok { items := xs, chk := [(n, xs)] } h := by
  unfold srcW srcU
  dsimp only
  rw [e]
theorem at_ref {h : IH} {n : Nat} {xs ys : List U} (e : h[n]? = some (.lst xs)) : Src.At { items := ys, chk := [(n, xs)] } h := by
  intro p hp
  simp only [List.mem_singleton] at hp
  subst hp
  exact e
/-! ### places in rows -/
def nD (x : Nat) : PyData := .int x
def isIn (o : Option Nat) (f : List Nat) : Bool := match o with
  | none => false
  | some x => f.contains x
theorem pDs_nat : ∀ f : List Nat, pDs (f.map nU) = some (f.map nD)
  | [] => rfl
  | x :: f => by
    show (match pD (nU x), pDs (f.map nU) with | some d, some ds => some (d :: ds) | _, _ => none) = _
    rw [pDs_nat f]; rfl
theorem lay_nat : ∀ f : List Nat, PyData.canLayAll0 (f.map nD) = true ∧ PyData.depthAll (f.map nD) ≤ 1
  | [] => by simp [PyData.canLayAll0, PyData.depthAll]
  | x :: f => by
    have := lay_nat f
    simp only [List.map_cons, PyData.canLayAll0, PyData.depthAll, this.1, nD, PyData.canLay0, PyData.depth]
    exact ⟨rfl, by omega⟩
theorem sh_nat (f : List Nat) : SeqAt.shaped (.list (f.map nD)) = true := by
  have := lay_nat f
  simp [SeqAt.shaped, PyData.canLay0, PyData.depth, this.1]; omega
theorem hasV_o (neg : Bool) (h : IH) (o : Option Nat) (f : List Nat) : hasV neg h false (tD h (oU o)) (some (f.map nD)) = .ok (.bl (if neg then !isIn o f else isIn o f)) h := by
  cases o with
  | none =>
    rw [show tD h (oU none) = some .none from rfl, hasV_e h neg false (by rfl) (by exact sh_nat f)]
    have : (f.any fun y => PyData.eqv (nD y) .none) = false := by rw [List.any_eq_false]; intro y _; simp [nD, PyData.eqv]
    simp only [List.any_map, Function.comp_def, this, isIn]
  | some x =>
    rw [show tD h (oU (some x)) = some (.int x) from rfl, hasV_e h neg false (by rfl) (by exact sh_nat f)]
    have : (f.any fun y => PyData.eqv (nD y) (.int (x : Int))) = f.contains x := by
      rw [List.contains_eq_any_beq]
      congr 1
      funext y
      rw [Bool.eq_iff_iff]
      simp [PyData.eqv, nD]
      omega
    simp only [List.any_map, Function.comp_def, this, isIn]
theorem has_l (neg : Bool) (h : IH) (o : Option Nat) (f : List Nat) : hasU neg (oU o) (.lst (f.map nU)) h = .ok (.bl (if neg then !isIn o f else isIn o f)) h := by
  rw [hasU_l, pDs_nat, hasV_o]
theorem hasU_r (neg : Bool) (x : U) {h : IH} {n : Nat} {ys : List U} (e : h[n]? = some (.lst ys)) : hasU neg x (.ref n) h = hasV neg h false (tD h x) (pDs ys) := by
  have e : tD h (.ref n) = (pDs ys).map .list := by
    unfold tD
    dsimp only
    rw [e]
  unfold hasU hasV
  cases x <;> (dsimp only; rw [e]; cases pDs ys <;> (try rfl))
  all_goals (first | (cases tD h _ <;> rfl) | skip)
theorem has_r (neg : Bool) {h : IH} (o : Option Nat) {f : List Nat} {n : Nat} (e : h[n]? = some (.lst (f.map nU))) : hasU neg (oU o) (.ref n) h = .ok (.bl (if neg then !isIn o f else isIn o f)) h := by
  rw [hasU_r neg _ e, pDs_nat, hasV_o]
@[simp] theorem isN_o (neg : Bool) (h : IH) (o : Option Nat) : isNU neg (oU o) .non h = .ok (.bl (if neg then o.isSome else o.isNone)) h := by
  cases o <;> cases neg <;> rfl
theorem add_1 (f : List Nat) (o : Option Nat) : add f [o] = if (o.isSome && !isIn o f) = true then f ++ o.toList else f := by
  cases o with
  | none => rfl
  | some x =>
    show (if x ∈ f then add f [] else add (f ++ [x]) []) = _
    simp only [isIn, Option.isSome, Bool.true_and]
    by_cases h : x ∈ f
    · rw [if_pos h, if_neg (by simp [h])]; rfl
    · rw [if_neg h, if_pos (by simp [h])]; rfl
theorem add_cons (f : List Nat) (o : Option Nat) (xs : List (Option Nat)) : add f (o :: xs) = add (add f [o]) xs := by
  cases o with
  | none => rfl
  | some x =>
    show (if x ∈ f then add f xs else add (f ++ [x]) xs) = add (if x ∈ f then f else f ++ [x]) xs
    split <;> rfl
end PD

set_option Elab.async false
set_option linter.all false
set_option maxRecDepth 100000
set_option maxHeartbeats 4000000
namespace PD.K76
open PySem PySem.Spec PyProof.Rows L2
variable (G : Glb)
/-- values that are copied whole -/
def pl : Nat → U → Prop
  | 0, _ => False
  | n + 1, .tup xs => xs.length ≤ 1000 ∧ ∀ x ∈ xs, pl n x
  | n + 1, .lst xs => xs.length ≤ 1000 ∧ ∀ x ∈ xs, pl n x
  | _ + 1, .non => True
  | _ + 1, .bl _ => True
  | _ + 1, .int _ => True
  | _ + 1, .str _ => True
  | _ + 1, _ => False
theorem pl_low : ∀ (n : Nat) {u : U} {k : Nat}, pl n u → low k u = true
  | 0, _, _, h => h.elim
  | n + 1, u, k, h => by
    cases u with
    | tup xs => exact lows_all.mpr fun x hx => pl_low n (h.2 x hx)
    | lst xs => exact lows_all.mpr fun x hx => pl_low n (h.2 x hx)
    | non => rfl
    | bl b => rfl
    | int i => rfl
    | str s => rfl
    | _ => exact h.elim
theorem anew_e : ∀ (n : Nat) (u : U) (h : IH), pl n u → f_anew G n [u] h = .ok u h
  | 0, _, _, e => e.elim
  | n + 1, u, h, e => by
    have go : ∀ (xs : List U) (ρ : Env), xs.length ≤ 1000 → (∀ x ∈ xs, pl n x) → ρ.length = 2 → compGo { items := xs } (nmG 1) yesB (callF 1 (f_anew G n) (consA (vE 1) nilA)) ρ xs h [] = .ok xs h := by
      intro xs ρ hl hx hr
      rw [compGo_pure (p := fun _ => true) (f := id) (G := fun x => ρ.set 1 (some x)) At_nil xs [] (fun x hx2 => ⟨rfl, rfl, fun _ => ?_⟩) (by rw [sizeL]; simp; omega)]
      · rw [List.filter_eq_self.mpr (by simp)]; simp
      · rw [callF_e, consA_e, vE_g (u := x) h (by simp [hr])]
        simp [anew_e n x h (hx x hx2)]
    show popF (fnR 2 1 (c_anew G (f_anew G n))) [u] h = _
    refine pop_same ?_ (pl_low _ e)
    rw [fnR_e]
    cases u with
    | tup xs => simp [c_anew, wipeE, go xs [some (.tup xs), none] e.1 e.2 rfl, tupleU, itL]
    | lst xs => simp [c_anew, wipeE, go xs [some (.lst xs), none] e.1 e.2 rfl]
    | non => simp [c_anew]
    | bl b => simp [c_anew]
    | int i => simp [c_anew]
    | str s => simp [c_anew]
    | _ => exact e.elim
theorem bads_pl (d : D) (u : U) (hu : u ∈ bads d) : pl 6 u := by
  simp only [bads, List.mem_cons, List.not_mem_nil, or_false] at hu
  rcases hu with rfl | rfl | rfl | rfl | rfl | rfl | rfl | rfl | rfl | rfl | rfl | rfl | rfl | rfl | rfl | rfl <;>
  cases d <;> simp [pl, D.u, D.us]
theorem clash_ok (d e : D) (h : IH) (hd : d.ok 6) (he : e.ok 6) : f_clash G [d.u, e.u] h = .ok (.bl (clashB d e)) h := by
  refine pop_same ?_ rfl
  rw [fnR_e]
  simp [c_clash, is_a_deed_ok G d h hd, is_a_deed_ok G e h he, do_clash_e]
theorem clash_bad1 (d : D) (u v : U) (h : IH) (hu : u ∈ bads d) : f_clash G [u, v] h = .exc G.e_InvalidDeed u h := by
  refine pop_exc ?_ (pl_low 6 (bads_pl d u hu))
  rw [fnR_e]
  simp [c_clash, bads_no G d h u hu, anew_e G 6 u h (bads_pl d u hu)]
theorem clash_bad2 (d e : D) (u : U) (h : IH) (he : e.ok 6) (hu : u ∈ bads d) : f_clash G [e.u, u] h = .exc G.e_InvalidDeed u h := by
  refine pop_exc ?_ (pl_low 6 (bads_pl d u hu))
  rw [fnR_e]
  simp [c_clash, is_a_deed_ok G e h he, bads_no G d h u hu, anew_e G 6 u h (bads_pl d u hu)]
def cat1 (hit : Addr → Option Bool) (i j : Nat) (r : RS) : RS := match r with
  | .exc C u ρ1 h1 => match hit C with
    | some true => .fl (.nx (((ρ1.set i none).set j (some (.exc C u))).set i none)) h1
    | some false => .exc C u ρ1 h1
    | none => .bad
  | r => r
theorem catchS_e (hit : Addr → Option Bool) (i j : Nat) (b : SM) (ρ : Env) (h : IH) : catchS hit i j b ρ h = cat1 hit i j (b ρ h) := rfl
theorem cat1_x {hit : Addr → Option Bool} {i j : Nat} {C : Addr} {u : U} {ρ : Env} {h : IH} (e : hit C = some true) : cat1 hit i j (.exc C u ρ h) = .fl (.nx (((ρ.set i none).set j (some (.exc C u))).set i none)) h := by
  unfold cat1
  dsimp only
  rw [e]
theorem isx_e (u : U) (h : IH) : isxU G.is_InvalidDeed (.exc G.e_InvalidDeed u) h = .ok (.bl true) h := by
  simp [isxU, Glb.is_InvalidDeed]
theorem val_e (u : U) (h : IH) : valU G.isErr (.exc G.e_InvalidDeed u) h = .ok u h := by
  simp [valU, Glb.isErr]
theorem refused_e (a b u : U) (h : IH) (s : Str) (e : f_clash G [a, b] h = .exc G.e_InvalidDeed u h) (hr : reprU u h = .ok (.str s) h) (hs : PyData.strOk s = true) : f_u_law_refused G [a, b, u] h = .ok (.bl true) h := by
  refine pop_same ?_ rfl
  rw [fnR_e]
  simp [c_u_law_refused, catchS_e, e, cat1_x (hit := G.hit) (C := G.e_InvalidDeed) (by simp [Glb.hit]), isx_e, val_e, hr, eqU_s _ _ _ _ hs hs]
theorem nw_new : nice (.str "new") = true := by decide +kernel
theorem nw_copy : nice (.str "copy") = true := by decide +kernel
theorem nw_clear : nice (.str "clear") = true := by decide +kernel
theorem nw_link : nice (.str "link") = true := by decide +kernel
theorem nw_follow : nice (.str "follow") = true := by decide +kernel
theorem nw_write : nice (.str "write") = true := by decide +kernel
theorem nw_read : nice (.str "read") = true := by decide +kernel
theorem nw_same : nice (.str "same") = true := by decide +kernel
theorem nw_shape : nice (.str "shape") = true := by decide +kernel
theorem nw_weak : nice (.str "weak") = true := by decide +kernel
theorem nw_look : nice (.str "look") = true := by decide +kernel
theorem nw_wish : nice (.str "wish") = true := by decide +kernel
theorem nw_next : nice (.str "next") = true := by decide +kernel
theorem nw_gather : nice (.str "gather") = true := by decide +kernel
theorem nw_Clear : nice (.str "Clear") = true := by decide +kernel
theorem nw_no : nice (.str "no") = true := by decide +kernel
theorem nice_i (i : Int) : (nice (.int i) = true) = (i.natAbs < 1073741824) := by simp [nice]
theorem nice_t (xs : List PyData) : nice (.tuple xs) = nices xs := rfl
theorem nice_l (xs : List PyData) : nice (.list xs) = nices xs := rfl
theorem nice_b (b : Bool) : nice (.bool b) = true := rfl
theorem nice_0 : nice .none = true := rfl
theorem bads_nice (d : D) (hd : d.ok 6) (u : U) (hu : u ∈ bads d) (h : IH) : ∃ e, tD h u = some e ∧ nice e = true ∧ e.depth ≤ 64 ∧ cells e ≤ 20000 := by
  have k : ∀ r : Nat, r < 6 → ((r : Int)).natAbs < 1073741824 := by intro r hr; omega
  simp only [bads, List.mem_cons, List.not_mem_nil, or_false] at hu
  rcases hu with rfl | rfl | rfl | rfl | rfl | rfl | rfl | rfl | rfl | rfl | rfl | rfl | rfl | rfl | rfl | rfl
  case inr.inl =>
    cases d <;> simp only [D.ok] at hd <;> refine ⟨_, rfl, ?_, ?_, ?_⟩ <;>
    simp [nice_i, nices, nice_t, nice_l, nice_b, nice_0, PyData.depth, PyData.depthAll, cells, cellss, nw_new, nw_copy, nw_clear, nw_link, nw_follow, nw_write, nw_read, nw_same, nw_shape, nw_weak, nw_look, nw_wish, nw_next, nw_gather, nw_Clear] <;> omega
  case inr.inr.inl =>
    cases d <;> simp only [D.ok] at hd <;> refine ⟨_, rfl, ?_, ?_, ?_⟩ <;>
    simp [nice_i, nices, nice_t, nice_l, nice_b, nice_0, PyData.depth, PyData.depthAll, cells, cellss, nw_new, nw_copy, nw_clear, nw_link, nw_follow, nw_write, nw_read, nw_same, nw_shape, nw_weak, nw_look, nw_wish, nw_next, nw_gather, nw_Clear] <;> omega
  case inr.inr.inr.inl =>
    cases d <;> simp only [D.ok] at hd <;> refine ⟨_, rfl, ?_, ?_, ?_⟩ <;>
    simp [nice_i, nices, nice_t, nice_l, nice_b, nice_0, PyData.depth, PyData.depthAll, cells, cellss, nw_new, nw_copy, nw_clear, nw_link, nw_follow, nw_write, nw_read, nw_same, nw_shape, nw_weak, nw_look, nw_wish, nw_next, nw_gather, nw_Clear] <;> omega
  all_goals
    refine ⟨_, rfl, ?_, ?_, ?_⟩ <;>
    simp [nice_i, nices, nice_t, nice_l, nice_b, nice_0, PyData.depth, PyData.depthAll, cells, cellss, nw_new, nw_copy, nw_clear, nw_link, nw_follow, nw_write, nw_read, nw_same, nw_shape, nw_weak, nw_look, nw_wish, nw_next, nw_gather, nw_Clear] <;> omega
end PD.K76

set_option Elab.async false
set_option linter.all false
set_option maxRecDepth 100000
set_option maxHeartbeats 4000000
namespace PD
open PySem PySem.Spec PyProof.Rows L2
/-! ### what is led to, walked -/
theorem upd_l {h : IH} {a b : O} : (h ++ [a]).set h.length b = h ++ [b] := by simp
theorem get_l {h : IH} {a : O} : (h ++ [a])[h.length]? = some a := by simp
/-- an item is looked at -/
noncomputable def lbody (j : Nat) : SM := ifS (andB (asB (bin (isNU true) (vE j) (cE .non))) (asB (bin (hasU true) (vE j) (vE 2)))) (exprS (bmE appU (vE 2) (consA (vE j) (nilA)))) (nxS)
theorem lbody_e {h : IH} {f : List Nat} {o : Option Nat} {ρ : Env} {j : Nat} (h2 : ρ[2]? = some (some (.ref h.length))) (hj : ρ[j]? = some (some (oU o))) (l : f.length < 16777216) :
    lbody j ρ (h ++ [.lst (f.map nU)]) = .fl (.nx ρ) (h ++ [.lst ((add f [o]).map nU)]) := by
  have a := vE_g (u := .ref h.length) (h ++ [O.lst (f.map nU)]) h2
  have c := vE_g (u := oU o) (h ++ [O.lst (f.map nU)]) hj
  rw [add_1]
  unfold lbody
  rw [ifS_e, andB_e, asB_e, bin_e, c, bin1_ok, cE_e, bin2_ok, isN_o, if_pos rfl, asB1_ok, ofB_b, andB1_ok]
  cases o with
  | none => simp
  | some x =>
    rw [if_pos (by rfl), asB_e, bin_e, c, bin1_ok, a, bin2_ok, has_r true (some x) get_l, if_pos rfl, asB1_ok, ofB_b, ifS1_ok]
    by_cases q : isIn (some x) f = true
    · rw [q]; simp
    · have q : isIn (some x) f = false := by simpa using q
      rw [q]
      simp only [Bool.not_false, if_true, Option.isSome, Bool.and_self, exprS_e, bmE_e, a, bm1_ok, lstAt_r, get_l, lstO_s, consA_e, c, consA1_ok, nilA_e, consA2_ok, bm2_ok]
      rw [appU_e _ _ get_l (by simpa using l), upd_l]
      simp [nU, oU]
theorem lloop {s : Src} {h : IH} {n : Nat} (sa : ∀ f : List Nat, s.At (h ++ [.lst (f.map nU)])) {j : Nat} (hj2 : j ≠ 2) (hn : n < 16777216) : ∀ (xs : List (Option Nat)) (f : List Nat) (ρ : Env), ρ[2]? = some (some (.ref h.length)) → j < ρ.length →
    f.Nodup → (∀ x ∈ f, x < n) → (∀ x, some x ∈ xs → x < n) → ∃ o, forGo s (nmG j) (lbody j) (xs.map oU) ρ (h ++ [.lst (f.map nU)]) = .fl (.nx (ρ.set j o)) (h ++ [.lst ((add f xs).map nU)])
  | [], f, ρ, _, hj, _, _, _ => ⟨ρ[j], by rw [List.map_nil, forGo_nil (sa f)]; simp [add]⟩
  | x :: xs, f, ρ, h2, hj, nd, lt, hx => by
    have fl := nodup_len nd lt
    obtain ⟨o, e⟩ := lloop sa hj2 hn xs (add f [x]) (ρ.set j (some (oU x))) (by rw [List.getElem?_set_ne hj2]; exact h2) (by simpa using hj) (add_nodup nd)
      (fun y hy => by
        rcases add_mem.mp hy with hy | hy
        · exact lt y hy
        · exact hx y (by simp at hy; simp [hy])) (fun y hy => hx y (by simp [hy]))
    refine ⟨o, ?_⟩
    rw [List.map_cons, forGo_cons (sa f), nmG_e, gthen_ok, lbody_e (o := x) (by rw [List.getElem?_set_ne hj2]; exact h2) (by simp [hj]) (by omega), turn_nx, e, List.set_set, ← add_cons]
/-- the lists by their words -/
def Ro.wd : Ro → Str
  | .root => "root"
  | .weak => "weak"
  | .wish => "wish"
  | .queue => "queue"
  | _ => ""
def row (s : S) : Ro → List (Option Nat)
  | .root => s.root
  | .weak => s.weak
  | .wish => s.wish.map some
  | .queue => s.queue.map some
  | _ => []
def isW (r : Ro) : Prop := r = .root ∨ r = .weak ∨ r = .wish ∨ r = .queue
theorem isW.ok {r : Ro} (h : isW r) (n : Nat) : r.ok n := by rcases h with rfl | rfl | rfl | rfl <;> trivial
theorem row_con {p : Ro → Nat} {s : S} {r : Ro} (h : isW r) : con p s r = .lst ((row s r).map oU) := by
  have e : ∀ l : List Nat, l.map nU = (l.map some).map oU := fun l => by rw [List.map_map]; rfl
  rcases h with rfl | rfl | rfl | rfl <;> simp only [con, row, e]
theorem row_lt {s : S} (w : s.WF) {r : Ro} : ∀ x, some x ∈ row s r → x < s.lks.length := by
  intro x hx
  cases r <;> simp [row] at hx
  · exact w.root x hx
  · exact w.weak x hx
  · exact w.wish x hx
  · exact w.queue x hx
theorem sb_wd (tab : Addr → Option (List (Str × U))) {h : IH} {b : Nat} {p : Ro → Nat} {s : S} (R : Rep h b p s) {r : Ro} (hr : isW r) : sbU tab (.ref (p .sto)) (.str r.wd) h = .ok (.ref (p r)) h := by
  rcases hr with rfl | rfl | rfl | rfl
  · exact R.sb_root _
  · exact R.sb_weak _
  · exact R.sb_wish _
  · exact R.sb_queue _
theorem add_app (f : List Nat) (ys : List (Option Nat)) : ∀ xs : List (Option Nat), ∀ f : List Nat, add f (xs ++ ys) = add (add f xs) ys
  | [], f => rfl
  | x :: xs, f => by rw [List.cons_append, add_cons, add_app f ys xs, add_cons f x xs]
noncomputable def wbody (tab : Addr → Option (List (Str × U))) : SM := forS (walkA (bin (sbU tab) (vE 0) (vE 3))) (nmG 4) (lbody 4)
theorem wloop (tab : Addr → Option (List (Str × U))) {s : S} {h : IH} {b : Nat} {p : Ro → Nat} (R : Rep h b p s) (w : s.WF) (hn : s.lks.length < 16777216) {ys : List U} : ∀ (ws : List Ro) (f : List Nat) (ρ : Env), (∀ r ∈ ws, isW r) → ρ.length = 8 → ρ[0]? = some (some (.ref (p .sto))) → ρ[2]? = some (some (.ref h.length)) →
    f.Nodup → (∀ x ∈ f, x < s.lks.length) → ∃ ρ', forGo { items := ys } (nmG 3) (wbody tab) (ws.map fun r => U.str r.wd) ρ (h ++ [.lst (f.map nU)]) = .fl (.nx ρ') (h ++ [.lst ((add f (ws.flatMap (row s))).map nU)]) ∧ ρ'.length = 8 ∧ ρ'[0]? = some (some (.ref (p .sto))) ∧ ρ'[2]? = some (some (.ref h.length))
  | [], f, ρ, _, a, c, d, _, _ => ⟨ρ, by rw [List.map_nil, forGo_nil At_nil]; simp [add], a, c, d⟩
  | r :: ws, f, ρ, hw, hl, h0, h2, nd, lt => by
    have hr := hw r (by simp)
    have Rg : ∀ f : List Nat, Rep (h ++ [.lst (f.map nU)]) b p s := fun f => R.app _
    have hat : ∀ f : List Nat, (h ++ [O.lst (f.map nU)])[p r]? = some (.lst ((row s r).map oU)) := fun f => by rw [(Rg f).at_ r (hr.ok _), row_con hr]
    obtain ⟨o, e⟩ := lloop (s := { items := (row s r).map oU, chk := [(p r, (row s r).map oU)] }) (h := h) (n := s.lks.length) (fun f => at_ref (hat f)) (j := 4) (by decide) hn (row s r) f (ρ.set 3 (some (.str r.wd))) (by rw [List.getElem?_set_ne (by decide)]; exact h2) (by simp [hl]) nd lt (row_lt w)
    have lt2 : ∀ x ∈ add f (row s r), x < s.lks.length := fun y hy => by
      rcases add_mem.mp hy with hy | hy
      · exact lt y hy
      · exact row_lt w y hy
    obtain ⟨ρ', e2, q1, q2, q3⟩ := wloop tab R w hn ws (add f (row s r)) ((ρ.set 3 (some (.str r.wd))).set 4 o) (fun r hr => hw r (by simp [hr])) (by simp [hl]) (by rw [List.getElem?_set_ne (by decide), List.getElem?_set_ne (by decide)]; exact h0) (by rw [List.getElem?_set_ne (by decide), List.getElem?_set_ne (by decide)]; exact h2) (add_nodup nd) lt2
    refine ⟨ρ', ?_, q1, q2, q3⟩
    rw [List.map_cons, forGo_cons At_nil, nmG_e, gthen_ok]
    have a := vE_g (u := .ref (p .sto)) (h ++ [O.lst (f.map nU)]) (ρ := ρ.set 3 (some (.str r.wd))) (i := 0) (by rw [List.getElem?_set_ne (by decide)]; exact h0)
    have c := vE_g (u := .str r.wd) (h ++ [O.lst (f.map nU)]) (ρ := ρ.set 3 (some (.str r.wd))) (i := 3) (by simp [hl])
    rw [show wbody tab (ρ.set 3 (some (.str r.wd))) (h ++ [.lst (f.map nU)]) = _ from forS_e _ _ _ _ _, walkA_e, bin_e, a, bin1_ok, c, bin2_ok, sb_wd tab (Rg f) hr, walk1_ok, src_ref (hat f), for1_ok, e, turn_nx, e2, List.flatMap_cons, add_app f]
noncomputable def tbody (tab : Addr → Option (List (Str × U))) : SM := ifS (asB (bin ltU (vE 5) (callA (on1 lenU) (consA (vE 2) (nilA))))) (seq (forS (walkA (bin (sbU tab) (bin (sbU tab) (bin (sbU tab) (vE 0) (cE (.str "objects"))) (bin (sbU tab) (vE 2) (vE 5))) (cE (.int 0)))) (nmG 7) (lbody 7)) (asgS (bin (addU false) (vE 5) (cE (.int 1))) (nmG 5))) (nxS)
theorem tloop (tab : Addr → Option (List (Str × U))) {s : S} {h : IH} {b : Nat} {p : Ro → Nat} (R : Rep h b p s) (w : s.WF) (hn : s.lks.length < 16777216) {ys : List U} : ∀ (zs : List U) (f : List Nat) (i : Nat) (ρ : Env), ρ.length = 8 → ρ[0]? = some (some (.ref (p .sto))) → ρ[2]? = some (some (.ref h.length)) → ρ[5]? = some (some (.int i)) →
    f.Nodup → (∀ x ∈ f, x < s.lks.length) → i ≤ f.length → ∃ ρ', forGo { items := ys } (nmG 6) (tbody tab) zs ρ (h ++ [.lst (f.map nU)]) = .fl (.nx ρ') (h ++ [.lst ((ledGo s.lks zs.length f i).map nU)]) ∧ ρ'[2]? = some (some (.ref h.length))
  | [], f, i, ρ, hl, h0, h2, h5, nd, lt, le => ⟨ρ, by rw [forGo_nil At_nil]; rfl, h2⟩
  | z :: zs, f, i, ρ, hl, h0, h2, h5, nd, lt, le => by
    have Rg : ∀ f : List Nat, Rep (h ++ [.lst (f.map nU)]) b p s := fun f => R.app _
    have v0 := vE_g (u := .ref (p .sto)) (h ++ [O.lst (f.map nU)]) (ρ := ρ.set 6 (some z)) (i := 0) (by rw [List.getElem?_set_ne (by decide)]; exact h0)
    have v2 := vE_g (u := .ref h.length) (h ++ [O.lst (f.map nU)]) (ρ := ρ.set 6 (some z)) (i := 2) (by rw [List.getElem?_set_ne (by decide)]; exact h2)
    have v5 := vE_g (u := .int i) (h ++ [O.lst (f.map nU)]) (ρ := ρ.set 6 (some z)) (i := 5) (by rw [List.getElem?_set_ne (by decide)]; exact h5)
    rw [forGo_cons At_nil, nmG_e, gthen_ok]
    unfold tbody
    rw [ifS_e, asB_e, bin_e, v5, bin1_ok, callA_e, consA_e, v2, consA1_ok, nilA_e, consA2_ok, callA1_ok, on1_e, len_ref get_l, bin2_ok, lt_e, asB1_ok, ofB_b, ifS1_ok]
    simp only [List.length_map, decide_eq_true_eq, Int.ofNat_lt]
    rw [List.length_cons]
    unfold ledGo
    by_cases q : i < f.length
    · rw [if_pos (by exact_mod_cast q)]
      have gx : f[i]? = some f[i] := List.getElem?_eq_getElem q
      have hx : f[i] < s.lks.length := lt _ (List.getElem_mem q)
      have hat : ∀ g : List Nat, (h ++ [O.lst (g.map nU)])[p (.ln f[i])]? = some (.lst ((s.lk f[i]).map oU)) := fun g => by rw [(Rg g).at_ (.ln f[i]) hx]; rfl
      rw [gx]
      dsimp only
      rw [seq_e, forS_e, walkA_e, bin_e, bin_e, bin_e, v0, bin1_ok, cE_e, bin2_ok, (Rg f).sb_objs, bin1_ok, bin_e, v2, bin1_ok, v5, bin2_ok]
      rw [show sbU tab (.ref h.length) (.int i) (h ++ [O.lst (f.map nU)]) = .ok (.int f[i]) (h ++ [O.lst (f.map nU)]) from by rw [sb_ref, get_l, sbO_l]; exact nth_g _ _ _ _ (by rw [List.getElem?_map, gx]; rfl)]
      rw [bin2_ok, (Rg f).sb_ob _ hx, bin1_ok, cE_e, bin2_ok, (Rg f).sb_0 _ hx, walk1_ok, src_ref (hat f), for1_ok]
      obtain ⟨o, e⟩ := lloop (s := { items := (s.lk f[i]).map oU, chk := [(p (.ln f[i]), (s.lk f[i]).map oU)] }) (h := h) (n := s.lks.length) (fun f => at_ref (hat f)) (j := 7) (by decide) hn (s.lk f[i]) f (ρ.set 6 (some z)) (by rw [List.getElem?_set_ne (by decide)]; exact h2) (by simp [hl]) nd lt (fun x => w.lk)
      rw [e, thn_nx]
      have v5' := vE_g (u := .int i) (h ++ [O.lst ((add f (s.lk f[i])).map nU)]) (ρ := (ρ.set 6 (some z)).set 7 o) (i := 5) (by rw [List.getElem?_set_ne (by decide), List.getElem?_set_ne (by decide)]; exact h5)
      rw [asgS_e, bin_e, v5', bin1_ok, cE_e, bin2_ok, add_i, asg1_ok, nmG_e, asg2_ok, turn_nx]
      have lt2 : ∀ x ∈ add f (s.lk f[i]), x < s.lks.length := fun y hy => by
        rcases add_mem.mp hy with hy | hy
        · exact lt y hy
        · exact w.lk hy
      obtain ⟨e3, he3⟩ := add_pre (xs := s.lk f[i]) (f := f)
      have := tloop tab R w hn (ys := ys) zs (add f (s.lk f[i])) (i + 1) (((ρ.set 6 (some z)).set 7 o).set 5 (some (.int ((i : Int) + 1)))) (by simp [hl])
        (by simp only [List.getElem?_set_ne (show 5 ≠ 0 by decide), List.getElem?_set_ne (show 7 ≠ 0 by decide), List.getElem?_set_ne (show 6 ≠ 0 by decide)]; exact h0)
        (by simp only [List.getElem?_set_ne (show 5 ≠ 2 by decide), List.getElem?_set_ne (show 7 ≠ 2 by decide), List.getElem?_set_ne (show 6 ≠ 2 by decide)]; exact h2)
        (by rw [List.getElem?_set_self (by simp [hl])]; rfl) (add_nodup nd) lt2 (by rw [← he3]; simp; omega)
      rw [S.lk_d]
      exact this
    · rw [if_neg (by intro z; exact q (by exact_mod_cast z))]
      rw [List.getElem?_eq_none (by omega), nxS_e, turn_nx]
      exact tloop tab R w hn zs f i (ρ.set 6 (some z)) (by simp [hl]) (by rw [List.getElem?_set_ne (by decide)]; exact h0) (by rw [List.getElem?_set_ne (by decide)]; exact h2) (by rw [List.getElem?_set_ne (by decide)]; exact h5) nd lt le
def rng1f (r : R (List U)) : R Src := r.bind fun us h1 => match us with
  | [.int j] => if -(2 ^ 62) ≤ j ∧ j < 2 ^ 62 then .ok (rngS 0 j.toNat) h1 else .bad
  | _ => .bad
theorem rng1_e (f : AM) (ρ : Env) (h : IH) : rng1 f ρ h = rng1f (f ρ h) := rfl
theorem rng1f_ok (n : Nat) (h : IH) (l : n < 2 ^ 62) : rng1f (.ok [.int n] h) = .ok (rngS 0 n) h := by
  have a : -(2 ^ 62 : Int) ≤ (n : Int) ∧ (n : Int) < 2 ^ 62 := ⟨by omega, by omega⟩
  unfold rng1f
  rw [R.bind_ok]
  dsimp only
  rw [if_pos a, Int.toNat_natCast]
end PD

set_option Elab.async false
set_option linter.all false
set_option maxRecDepth 100000
set_option maxHeartbeats 4000000
namespace PD.K76
open PySem PySem.Spec PyProof.Rows L2
variable (G : Glb)
theorem led_e {s : S} {h : IH} {b : Nat} {p : Ro → Nat} (R : Rep h b p s) (w : s.WF) (hn : s.lks.length < 16777215) (ws : List Ro) (hw : ∀ r ∈ ws, isW r) :
    f_u_law_led G [.ref (p .sto), .lst (ws.map fun r => U.str r.wd)] h = .ok (.lst ((s.led (ws.flatMap (row s))).map nU)) h := by
  refine pop_list (k := h.length) (g := [.lst ((s.led (ws.flatMap (row s))).map nU)]) ?_ (Nat.le_refl _) (by simp) (lows_all.mpr fun x hx => by obtain ⟨n, _, rfl⟩ := List.mem_map.mp hx; rfl)
  rw [fnR_e]
  show (seq (asgS (lstE true (nilA)) (nmG 2)) (seq (forS (walkA (vE 1)) (nmG 3) (wbody G.tab)) (seq (asgS (cE (.int 0)) (nmG 5)) (seq (forS (rng1 (consA (bin (addU false) (callA (on1 lenU) (consA (bin (sbU G.tab) (vE 0) (cE (.str "objects"))) (nilA))) (cE (.int 1))) (nilA))) (nmG 6) (tbody G.tab)) (retS (vE 2))))) _ h).fin = _
  simp only [seq_e, asgS_e, lstE_e, nilA_e, lstE1_ok, newL_0t, asg1_ok, nmG_e, asg2_ok, thn_nx, forS_e, walkA_e, List.map_cons, List.map_nil, List.cons_append, List.nil_append, List.replicate, List.set, vE_s, vE_z, walk1_ok, srcW_l, for1_ok]
  obtain ⟨ρ', e, q1, q2, q3⟩ := wloop G.tab R w (by omega) (ys := ws.map fun r => U.str r.wd) ws [] [some (.ref (p .sto)), some (.lst (ws.map fun r => U.str r.wd)), some (.ref h.length), none, none, none, none, none] hw rfl rfl rfl List.nodup_nil (by simp)
  rw [show ([] : List Nat).map nU = [] from rfl] at e
  rw [e, thn_nx]
  simp only [seq_e, asgS_e, forS_e, cE_e, asg1_ok, nmG_e, asg2_ok, thn_nx, rng1_e, consA_e, bin_e, callA_e]
  have Rg := R.app [O.lst ((add [] (ws.flatMap (row s))).map nU)]
  have v0 := vE_g (u := .ref (p .sto)) (h ++ [O.lst ((add [] (ws.flatMap (row s))).map nU)]) (ρ := ρ'.set 5 (some (.int 0))) (i := 0) (by rw [List.getElem?_set_ne (by decide)]; exact q2)
  rw [v0]
  simp only [cE_e, bin1_ok, bin2_ok, Rg.sb_objs, consA1_ok, nilA_e, consA2_ok, callA1_ok, on1_e]
  rw [len_ref (Rg.at_ .objs trivial)]
  simp only [cE_e, bin1_ok, bin2_ok, add_i, consA1_ok, nilA_e, consA2_ok, List.length_map, List.length_range]
  rw [show ((s.lks.length : Nat) : Int) + 1 = ((s.lks.length + 1 : Nat) : Int) by omega, rng1f_ok _ _ (by omega), for1_ok]
  obtain ⟨ρ2, e2, z⟩ := tloop G.tab R w (by omega) (ys := (rngS 0 (s.lks.length + 1)).items) (rngS 0 (s.lks.length + 1)).items (add [] (ws.flatMap (row s))) 0 (ρ'.set 5 (some (.int 0))) (by simpa using q1) (by rw [List.getElem?_set_ne (by decide)]; exact q2) (by rw [List.getElem?_set_ne (by decide)]; exact q3) (by rw [List.getElem?_set_self (by omega)]; rfl) (add_nodup List.nodup_nil)
    (fun x hx => by
      rcases add_mem.mp hx with hx | hx
      · cases hx
      · obtain ⟨r, _, hx⟩ := List.mem_flatMap.mp hx; exact row_lt w x hx) (Nat.zero_le _)
  show ((forGo { items := (rngS 0 (s.lks.length + 1)).items } (nmG 6) (tbody G.tab) (rngS 0 (s.lks.length + 1)).items (ρ'.set 5 (some (.int 0))) _).thn _).fin = _
  rw [e2, thn_nx, retS_e, vE_g _ _ z, retS1_ok, fin_rt]
  simp [rngS, S.led]
end PD.K76

set_option Elab.async false
set_option linter.all false
set_option maxRecDepth 100000
set_option maxHeartbeats 4000000
namespace PD
open PySem PySem.Spec PyProof.Rows L2
/-! ### more, read off -/
section
variable (neg : Bool) (h : IH)
@[simp] theorem isN_i (i : Int) : isNU neg (.int i) .non h = .ok (.bl neg) h := rfl
@[simp] theorem isN_r (i : Nat) : isNU neg (.ref i) .non h = .ok (.bl neg) h := rfl
@[simp] theorem isN_b (i : Bool) : isNU neg (.bl i) .non h = .ok (.bl neg) h := rfl
@[simp] theorem isN_s (i : Str) : isNU neg (.str i) .non h = .ok (.bl neg) h := rfl
@[simp] theorem isN_t (i : List U) : isNU neg (.tup i) .non h = .ok (.bl neg) h := rfl
@[simp] theorem isN_l (i : List U) : isNU neg (.lst i) .non h = .ok (.bl neg) h := rfl
@[simp] theorem isN_n : isNU neg .non .non h = .ok (.bl !neg) h := rfl
end
theorem oU_s (x : Nat) : oU (some x) = .int x := rfl
theorem oU_n : oU none = .non := rfl
structure Go (h : IH) (b : Nat) (h' : IH) : Prop where
  len : h.length ≤ h'.length
  low : ∀ i, i < b → h'[i]? = h[i]?
theorem go_same {h : IH} {b : Nat} : Go h b h := ⟨Nat.le_refl _, fun _ _ => rfl⟩
theorem go_set {h : IH} {b n : Nat} {o : O} (hn : b ≤ n) : Go h b (h.set n o) := ⟨by simp, fun i hi => by rw [List.getElem?_set_ne (by omega)]⟩
theorem go_app {h g : IH} {b : Nat} (hb : b ≤ h.length) : Go h b (h ++ g) := ⟨by simp, fun i hi => by rw [List.getElem?_append_left (by omega)]⟩
theorem go_trans {h h1 h2 : IH} {b : Nat} (a : Go h b h1) (c : Go h1 b h2) : Go h b h2 := ⟨Nat.le_trans a.len c.len, fun i hi => (c.low i hi).trans (a.low i hi)⟩
theorem nth_o {xs : List (Option Nat)} {i : Nat} {o : Option Nat} (e : xs[i]? = some o) (h : IH) : nthU (xs.map oU) (i : Int) h = .ok (oU o) h := nth_g _ _ _ _ (by rw [List.getElem?_map, e]; rfl)
theorem nth_z {xs : List Int} {i : Nat} {o : Int} (e : xs[i]? = some o) (h : IH) : nthU (xs.map U.int) (i : Int) h = .ok (.int o) h := nth_g _ _ _ _ (by rw [List.getElem?_map, e]; rfl)
section
variable {h : IH} {b : Nat} {p : Ro → Nat} {s : S} (R : Rep h b p s)
include R
/-- a root is set -/
theorem Rep.setRoot (r : Nat) (o : Option Nat) : Rep (h.set (p .root) (.lst ((s.root.map oU).set r (oU o)))) b p { s with root := s.root.set r o } := by
  have := R.set (r := .root) (t := { s with root := s.root.set r o }) trivial rfl (fun q _ hq => by cases q <;> first | rfl | exact absurd rfl hq)
  rw [show con p { s with root := s.root.set r o } .root = .lst ((s.root.map oU).set r (oU o)) by simp [con, List.map_set]] at this
  exact this
theorem Rep.setWeak (r : Nat) (o : Option Nat) : Rep (h.set (p .weak) (.lst ((s.weak.map oU).set r (oU o)))) b p { s with weak := s.weak.set r o } := by
  have := R.set (r := .weak) (t := { s with weak := s.weak.set r o }) trivial rfl (fun q _ hq => by cases q <;> first | rfl | exact absurd rfl hq)
  rw [show con p { s with weak := s.weak.set r o } .weak = .lst ((s.weak.map oU).set r (oU o)) by simp [con, List.map_set]] at this
  exact this
theorem Rep.setLk {x : Nat} (hx : x < s.lks.length) (i : Nat) (o : Option Nat) : Rep (h.set (p (.ln x)) (.lst (((s.lk x).map oU).set i (oU o)))) b p { s with lks := s.lks.set x ((s.lk x).set i o) } := by
  have := R.set (r := .ln x) (t := { s with lks := s.lks.set x ((s.lk x).set i o) }) hx (by simp) (fun q _ hq => by
    cases q with
    | ln y =>
      have : x ≠ y := fun z => hq (by rw [z])
      simp [con, S.lk, List.getElem?_set_ne this]
    | objs => simp [con]
    | _ => rfl)
  rw [show con p { s with lks := s.lks.set x ((s.lk x).set i o) } (.ln x) = .lst (((s.lk x).map oU).set i (oU o)) by simp [con, S.lk, List.map_set, hx]] at this
  exact this
theorem Rep.setNm {x : Nat} (hx : x < s.lks.length) (w : s.WF) (i : Nat) (v : Int) : Rep (h.set (p (.nu x)) (.lst (((s.nm x).map U.int).set i (.int v)))) b p { s with nms := s.nms.set x ((s.nm x).set i v) } := by
  have := R.set (r := .nu x) (t := { s with nms := s.nms.set x ((s.nm x).set i v) }) hx rfl (fun q _ hq => by
    cases q with
    | nu y =>
      have : x ≠ y := fun z => hq (by rw [z])
      simp [con, S.nm, List.getElem?_set_ne this]
    | _ => rfl)
  have hx2 : x < s.nms.length := by rw [w.nms]; exact hx
  rw [show con p { s with nms := s.nms.set x ((s.nm x).set i v) } (.nu x) = .lst (((s.nm x).map U.int).set i (.int v)) by simp [con, S.nm, List.map_set, hx2]] at this
  exact this
theorem Rep.setMk {x : Nat} (hx : x < s.lks.length) (w : s.WF) (v : Bool) : Rep (h.set (p (.ob x)) (.lst [.ref (p (.ln x)), .ref (p (.nu x)), .bl v])) b p { s with mks := s.mks.set x v } := by
  have := R.set (r := .ob x) (t := { s with mks := s.mks.set x v }) hx rfl (fun q _ hq => by
    cases q with
    | ob y =>
      have : x ≠ y := fun z => hq (by rw [z])
      simp [con, S.mk_, List.getElem?_set_ne this]
    | _ => rfl)
  have hx2 : x < s.mks.length := by rw [w.mks]; exact hx
  rw [show con p { s with mks := s.mks.set x v } (.ob x) = .lst [.ref (p (.ln x)), .ref (p (.nu x)), .bl v] by simp [con, S.mk_, hx2]] at this
  exact this
theorem Rep.setWish (x : Nat) : Rep (h.set (p .wish) (.lst (s.wish.map nU ++ [.int x]))) b p { s with wish := s.wish ++ [x] } := by
  have := R.set (r := .wish) (t := { s with wish := s.wish ++ [x] }) trivial rfl (fun q _ hq => by cases q <;> first | rfl | exact absurd rfl hq)
  rw [show con p { s with wish := s.wish ++ [x] } .wish = .lst (s.wish.map nU ++ [.int x]) by simp [con, nU]] at this
  exact this
end
end PD

set_option Elab.async false
set_option linter.all false
set_option maxRecDepth 100000
set_option maxHeartbeats 4000000
namespace PD.K76
open PySem PySem.Spec PyProof.Rows L2
variable (G : Glb)
/-! ### the deeds, done -/
theorem part0 {s : S} {h : IH} {b : Nat} {p : Ro → Nat} (R : Rep h b p s) (w : s.WF) {r : Nat} (hr : r < s.root.length) (i : Nat) :
    f_u_law_part G [.ref (p .sto), .int r, .int i, .int 0] h = .ok (match s.rt r with | none => .non | some x => if i < (s.lk x).length then .ref (p (.ln x)) else .non) h := by
  show fnR 6 4 (c_u_law_part G) _ h = _
  rw [fnR_e]
  rcases q : s.rt r with _ | x
  · simp [c_u_law_part, R.sb_root, R.sb_rt _ hr, q, oU_n]
  · have hx := w.rt q
    have e := len_ref (R.at_ (.ln x) hx)
    simp [c_u_law_part, R.sb_root, R.sb_rt _ hr, q, R.sb_objs, show oU (some x) = .int x from rfl, R.sb_ob _ hx, R.sb_0 _ hx, e]
theorem part1 {s : S} {h : IH} {b : Nat} {p : Ro → Nat} (R : Rep h b p s) (w : s.WF) {r : Nat} (hr : r < s.root.length) (i : Nat) :
    f_u_law_part G [.ref (p .sto), .int r, .int i, .int 1] h = .ok (match s.rt r with | none => .non | some x => if i < (s.nm x).length then .ref (p (.nu x)) else .non) h := by
  show fnR 6 4 (c_u_law_part G) _ h = _
  rw [fnR_e]
  rcases q : s.rt r with _ | x
  · simp [c_u_law_part, R.sb_root, R.sb_rt _ hr, q, oU_n]
  · have hx := w.rt q
    have e := len_ref (R.at_ (.nu x) hx)
    simp [c_u_law_part, R.sb_root, R.sb_rt _ hr, q, R.sb_objs, show oU (some x) = .int x from rfl, R.sb_ob _ hx, R.sb_1 _ hx, e]
end PD.K76

set_option Elab.async false
set_option linter.all false
set_option maxRecDepth 100000
set_option maxHeartbeats 4000000
namespace PD.K76
open PySem PySem.Spec PyProof.Rows L2
variable (G : Glb)
theorem hasW (neg : Bool) (a : Str) (ws : List Str) (h : IH) (e : PyData.strOk a = true) (es : ws.all PyData.strOk = true) (l : ws.length ≤ 10) : hasU neg (.str a) (.tup (ws.map U.str)) h = .ok (.bl (if neg then !ws.any fun w => w == a else ws.any fun w => w == a)) h := by
  have sh : ∀ ws : List Str, ws.all PyData.strOk = true → PyData.canLayAll0 (ws.map PyData.str) = true ∧ PyData.depthAll (ws.map PyData.str) ≤ 1 := by
    intro ws
    induction ws with
    | nil => intro _; simp [PyData.canLayAll0, PyData.depthAll]
    | cons v ws ih =>
      intro e
      rw [List.all_cons, Bool.and_eq_true] at e
      obtain ⟨a, b⟩ := ih e.2
      simp [PyData.canLayAll0, PyData.depthAll, PyData.canLay0, PyData.depth, e.1, a]
      omega
  obtain ⟨a1, b1⟩ := sh ws es
  have sd : SeqAt.shaped (.tuple (ws.map PyData.str)) = true := by
    simp [SeqAt.shaped, PyData.canLay0, PyData.depth, a1]; omega
  rw [hasU_t, pDs_strs]
  rw [show tD h (.str a) = some (.str a) from rfl, hasV_e h neg true (sh_str e) (by exact sd)]
  simp [List.any_map, Function.comp_def]
theorem do_link {s : S} {h : IH} {b : Nat} {p : Ro → Nat} (R : Rep h b p s) (w : s.WF) {r i t : Nat} (hd : (D.link r i t).ok s.root.length) :
    ∃ h', f_u_law_do_part G [.ref (p .sto), (D.link r i t).u] h = .ok (s.an (.link r i t)).u h' ∧ Rep h' b p (s.st (.link r i t)) ∧ Go h b h' := by
  simp only [D.ok] at hd
  show ∃ h', fnR 6 2 (c_u_law_do_part G) _ h = _ ∧ _
  rw [fnR_e]
  rcases q : s.rt r with _ | x
  · refine ⟨h, ?_, ?_, go_same⟩
    · simp [c_u_law_do_part, D.u, D.us, eqU_s, part0 G R w hd.1, q, S.an, S.do, An.u, hasU_t, hasV, tD, pD, pDs, SeqAt.shaped, PyData.canLay0, PyData.canLayAll0, PyData.depth, PyData.depthAll, PyData.eqv]
    · simpa [S.st, S.do, q] using R
  · have hx := w.rt q
    by_cases l : i < (s.lk x).length
    · refine ⟨h.set (p (.ln x)) (.lst (((s.lk x).map oU).set i (oU (s.rt t)))), ?_, ?_, go_set (R.ge (.ln x) hx)⟩
      · simp [c_u_law_do_part, D.u, D.us, eqU_s, part0 G R w hd.1, q, S.an, S.do, An.u, l, hasU_t, hasV, tD, pD, pDs, SeqAt.shaped, PyData.canLay0, PyData.canLayAll0, PyData.depth, PyData.depthAll, PyData.eqv, R.sb_root, R.sb_rt _ hd.2.2, R.at_ (.ln x) hx, con, putO_l]
      · simp only [S.st, S.do, q, if_pos l]
        exact R.setLk hx i _
    · refine ⟨h, ?_, ?_, go_same⟩
      · simp [c_u_law_do_part, D.u, D.us, eqU_s, part0 G R w hd.1, q, S.an, S.do, An.u, l, hasU_t, hasV, tD, pD, pDs, SeqAt.shaped, PyData.canLay0, PyData.canLayAll0, PyData.depth, PyData.depthAll, PyData.eqv]
      · simpa [S.st, S.do, q, l] using R
end PD.K76

set_option Elab.async false
set_option linter.all false
set_option maxRecDepth 100000
set_option maxHeartbeats 4000000
namespace PD.K76
open PySem PySem.Spec PyProof.Rows L2
variable (G : Glb)
theorem do_follow {s : S} {h : IH} {b : Nat} {p : Ro → Nat} (R : Rep h b p s) (w : s.WF) {r t i : Nat} (hd : (D.follow r t i).ok s.root.length) :
    ∃ h', f_u_law_do_part G [.ref (p .sto), (D.follow r t i).u] h = .ok (s.an (D.follow r t i)).u h' ∧ Rep h' b p (s.st (D.follow r t i)) ∧ Go h b h' := by
  simp only [D.ok] at hd
  show ∃ h', fnR 6 2 (c_u_law_do_part G) _ h = _ ∧ _
  rw [fnR_e]
  rcases q : s.rt t with _ | x
  · refine ⟨h, ?_, ?_, go_same⟩
    · simp [c_u_law_do_part, D.u, D.us, eqU_s, S.an, S.do, An.u, hasU_t, hasV, tD, pD, pDs, SeqAt.shaped, PyData.canLay0, PyData.canLayAll0, PyData.depth, PyData.depthAll, PyData.eqv, part0 G R w hd.2.1, q]
    · simpa [S.st, S.do, q] using R
  · have hx := w.rt q
    by_cases l : i < (s.lk x).length
    · obtain ⟨o, ho⟩ : ∃ o, (s.lk x)[i]? = some o := ⟨_, List.getElem?_eq_getElem l⟩
      refine ⟨h.set (p .root) (.lst ((s.root.map oU).set r (oU o))), ?_, ?_, go_set (R.ge .root trivial)⟩
      · simp [c_u_law_do_part, D.u, D.us, eqU_s, S.an, S.do, An.u, hasU_t, hasV, tD, pD, pDs, SeqAt.shaped, PyData.canLay0, PyData.canLayAll0, PyData.depth, PyData.depthAll, PyData.eqv, part0 G R w hd.2.1, q, l, R.sb_root, R.at_ (.ln x) hx, R.at_ .root trivial, con, nth_o ho, ho, putO_l, hd.1]
      · simp only [S.st, S.do, q, ho]
        exact R.setRoot r o
    · have ho : (s.lk x)[i]? = none := List.getElem?_eq_none (by omega)
      refine ⟨h, ?_, ?_, go_same⟩
      · simp [c_u_law_do_part, D.u, D.us, eqU_s, S.an, S.do, An.u, hasU_t, hasV, tD, pD, pDs, SeqAt.shaped, PyData.canLay0, PyData.canLayAll0, PyData.depth, PyData.depthAll, PyData.eqv, part0 G R w hd.2.1, q, l, ho]
      · simpa [S.st, S.do, q, ho] using R
theorem do_write {s : S} {h : IH} {b : Nat} {p : Ro → Nat} (R : Rep h b p s) (w : s.WF) {r i : Nat} {v : Int} (hd : (D.write r i v).ok s.root.length) :
    ∃ h', f_u_law_do_part G [.ref (p .sto), (D.write r i v).u] h = .ok (s.an (D.write r i v)).u h' ∧ Rep h' b p (s.st (D.write r i v)) ∧ Go h b h' := by
  simp only [D.ok] at hd
  show ∃ h', fnR 6 2 (c_u_law_do_part G) _ h = _ ∧ _
  rw [fnR_e]
  rcases q : s.rt r with _ | x
  · refine ⟨h, ?_, ?_, go_same⟩
    · simp [c_u_law_do_part, D.u, D.us, eqU_s, S.an, S.do, An.u, hasU_t, hasV, tD, pD, pDs, SeqAt.shaped, PyData.canLay0, PyData.canLayAll0, PyData.depth, PyData.depthAll, PyData.eqv, part1 G R w hd.1, q]
    · simpa [S.st, S.do, q] using R
  · have hx := w.rt q
    by_cases l : i < (s.nm x).length
    · refine ⟨h.set (p (.nu x)) (.lst (((s.nm x).map U.int).set i (.int v))), ?_, ?_, go_set (R.ge (.nu x) hx)⟩
      · simp [c_u_law_do_part, D.u, D.us, eqU_s, S.an, S.do, An.u, hasU_t, hasV, tD, pD, pDs, SeqAt.shaped, PyData.canLay0, PyData.canLayAll0, PyData.depth, PyData.depthAll, PyData.eqv, part1 G R w hd.1, q, l, R.at_ (.nu x) hx, con, putO_l]
      · simp only [S.st, S.do, q, if_pos l]
        exact R.setNm hx w i v
    · refine ⟨h, ?_, ?_, go_same⟩
      · simp [c_u_law_do_part, D.u, D.us, eqU_s, S.an, S.do, An.u, hasU_t, hasV, tD, pD, pDs, SeqAt.shaped, PyData.canLay0, PyData.canLayAll0, PyData.depth, PyData.depthAll, PyData.eqv, part1 G R w hd.1, q, l]
      · simpa [S.st, S.do, q, l] using R
theorem do_read {s : S} {h : IH} {b : Nat} {p : Ro → Nat} (R : Rep h b p s) (w : s.WF) {r i : Nat} (hd : (D.read r i).ok s.root.length) :
    ∃ h', f_u_law_do_part G [.ref (p .sto), (D.read r i).u] h = .ok (s.an (D.read r i)).u h' ∧ Rep h' b p (s.st (D.read r i)) ∧ Go h b h' := by
  simp only [D.ok] at hd
  show ∃ h', fnR 6 2 (c_u_law_do_part G) _ h = _ ∧ _
  rw [fnR_e]
  rcases q : s.rt r with _ | x
  · refine ⟨h, ?_, ?_, go_same⟩
    · simp [c_u_law_do_part, D.u, D.us, eqU_s, S.an, S.do, An.u, hasU_t, hasV, tD, pD, pDs, SeqAt.shaped, PyData.canLay0, PyData.canLayAll0, PyData.depth, PyData.depthAll, PyData.eqv, part1 G R w hd.1, q]
    · simpa [S.st, S.do, q] using R
  · have hx := w.rt q
    by_cases l : i < (s.nm x).length
    · obtain ⟨o, ho⟩ : ∃ o, (s.nm x)[i]? = some o := ⟨_, List.getElem?_eq_getElem l⟩
      refine ⟨h, ?_, ?_, go_same⟩
      · simp [c_u_law_do_part, D.u, D.us, eqU_s, S.an, S.do, An.u, hasU_t, hasV, tD, pD, pDs, SeqAt.shaped, PyData.canLay0, PyData.canLayAll0, PyData.depth, PyData.depthAll, PyData.eqv, part1 G R w hd.1, q, l, R.at_ (.nu x) hx, con, nth_z ho, ho]
        exact (List.getElem?_eq_some_iff.mp ho).2.symm
      · simpa [S.st, S.do, q, ho] using R
    · have ho : (s.nm x)[i]? = none := List.getElem?_eq_none (by omega)
      refine ⟨h, ?_, ?_, go_same⟩
      · simp [c_u_law_do_part, D.u, D.us, eqU_s, S.an, S.do, An.u, hasU_t, hasV, tD, pD, pDs, SeqAt.shaped, PyData.canLay0, PyData.canLayAll0, PyData.depth, PyData.depthAll, PyData.eqv, part1 G R w hd.1, q, l, ho]
      · simpa [S.st, S.do, q, ho] using R
theorem wish_e {s : S} {h : IH} {b : Nat} {p : Ro → Nat} (R : Rep h b p s) (w : s.WF) (hn : s.wish.length < 16777216) {r : Nat} (hd : r < s.root.length) :
    ∃ h', f_u_law_wish G [.ref (p .sto), .int r] h = .ok (s.an (.wish r)).u h' ∧ Rep h' b p (s.st (.wish r)) ∧ Go h b h' := by
  show ∃ h', fnR 4 2 (c_u_law_wish G) _ h = _ ∧ _
  rw [fnR_e]
  rcases q : s.rt r with _ | x
  · refine ⟨h, ?_, ?_, go_same⟩
    · simp [c_u_law_wish, S.an, S.do, An.u, R.sb_root, R.sb_rt _ hd, q, oU_n]
    · simpa [S.st, S.do, q] using R
  · have hx := w.rt q
    by_cases l : s.mk_ x = true
    · refine ⟨h, ?_, ?_, go_same⟩
      · simp [c_u_law_wish, S.an, S.do, An.u, R.sb_root, R.sb_rt _ hd, q, oU_s, R.sb_objs, R.sb_ob _ hx, R.sb_2 _ hx, l]
      · simpa [S.st, S.do, q, l] using R
    · have R2 := R.setMk hx w true
      have R3 := R2.setWish x
      refine ⟨_, ?_, by simpa [S.st, S.do, q, l] using R3, go_trans (go_set (R.ge (.ob x) hx)) (go_set (R2.ge .wish trivial))⟩
      have at2 := R2.at_ .wish trivial
      have ne : ¬ p (.ob x) = p .wish := fun z => by have := R.inj (.ob x) .wish hx trivial z; cases this
      have ap := appU_e (u := .int x) (h.set (p (.ob x)) (.lst [.ref (p (.ln x)), .ref (p (.nu x)), .bl true])) at2 (by simpa using hn)
      simp [c_u_law_wish, S.an, S.do, An.u, R.sb_root, R.sb_rt _ hd, q, oU_s, R.sb_objs, R.sb_ob _ hx, R.sb_2 _ hx, l, R.at_ (.ob x) hx, con, putO, ixN, R2.sb_wish, at2, ap]
end PD.K76

set_option Elab.async false
set_option linter.all false
set_option maxRecDepth 100000
set_option maxHeartbeats 4000000
namespace PD
open PySem PySem.Spec PyProof.Rows L2
/-! ### a gather's parts -/
theorem putD_weak (p : Ro → Nat) (k : Nat) : putD (stoK p) (.inr "weak") (.ref k) = stoK (plc p .weak k) := by simp [putD, stoK, plc]
theorem putD_wish (p : Ro → Nat) (k : Nat) : putD (stoK p) (.inr "wish") (.ref k) = stoK (plc p .wish k) := by simp [putD, stoK, plc]
theorem putD_queue (p : Ro → Nat) (k : Nat) : putD (stoK p) (.inr "queue") (.ref k) = stoK (plc p .queue k) := by simp [putD, stoK, plc]
section
variable {h : IH} {b : Nat} {p : Ro → Nat} {s : S} (R : Rep h b p s)
include R
theorem Rep.mvWeak (hb : b ≤ h.length) (l : List (Option Nat)) : putX (.ref (p .sto)) (.str "weak") (.ref h.length) (h ++ [O.lst (l.map oU)]) = .ok () ((h ++ [O.lst (l.map oU)]).set (p .sto) (.dk (stoK (plc p .weak h.length)))) ∧
    Rep ((h ++ [O.lst (l.map oU)]).set (p .sto) (.dk (stoK (plc p .weak h.length)))) b (plc p .weak h.length) { s with weak := l } := by
  have R2 := R.app [O.lst (l.map oU)]
  constructor
  · rw [putX_r, R2.at_ .sto trivial, con, putO_d _ _ _ _ _ (by simp [stoK]), putD_weak]
  · exact R.move (r := .weak) (t := { s with weak := l }) (.inl rfl) hb rfl (fun q hq hs => by cases q <;> first | rfl | exact absurd rfl hq | exact absurd rfl hs | simp [con, plc, S.mk_]) (g := [])
theorem Rep.mvWish (hb : b ≤ h.length) (l : List Nat) : putX (.ref (p .sto)) (.str "wish") (.ref h.length) (h ++ [O.lst (l.map nU)]) = .ok () ((h ++ [O.lst (l.map nU)]).set (p .sto) (.dk (stoK (plc p .wish h.length)))) ∧
    Rep ((h ++ [O.lst (l.map nU)]).set (p .sto) (.dk (stoK (plc p .wish h.length)))) b (plc p .wish h.length) { s with wish := l } := by
  have R2 := R.app [O.lst (l.map nU)]
  constructor
  · rw [putX_r, R2.at_ .sto trivial, con, putO_d _ _ _ _ _ (by simp [stoK]), putD_wish]
  · exact R.move (r := .wish) (t := { s with wish := l }) (.inr (.inl rfl)) hb rfl (fun q hq hs => by cases q <;> first | rfl | exact absurd rfl hq | exact absurd rfl hs | simp [con, plc, S.mk_]) (g := [])
theorem Rep.mvQueue (hb : b ≤ h.length) (l : List Nat) : putX (.ref (p .sto)) (.str "queue") (.ref h.length) (h ++ [O.lst (l.map nU)]) = .ok () ((h ++ [O.lst (l.map nU)]).set (p .sto) (.dk (stoK (plc p .queue h.length)))) ∧
    Rep ((h ++ [O.lst (l.map nU)]).set (p .sto) (.dk (stoK (plc p .queue h.length)))) b (plc p .queue h.length) { s with queue := l } := by
  have R2 := R.app [O.lst (l.map nU)]
  constructor
  · rw [putX_r, R2.at_ .sto trivial, con, putO_d _ _ _ _ _ (by simp [stoK]), putD_queue]
  · exact R.move (r := .queue) (t := { s with queue := l }) (.inr (.inr rfl)) hb rfl (fun q hq hs => by cases q <;> first | rfl | exact absurd rfl hq | exact absurd rfl hs | simp [con, plc, S.mk_]) (g := [])
end
theorem go_mv {h : IH} {b n : Nat} {a o : O} (hb : b ≤ h.length) (hn : b ≤ n) : Go h b ((h ++ [a]).set n o) := go_trans (go_app hb) (go_set hn)
theorem plc_sto (p : Ro → Nat) {r : Ro} (k : Nat) (hr : r ≠ .sto) : plc p r k .sto = p .sto := by simp [plc, hr.symm]
section
variable {h : IH} {b n : Nat} {p : Ro → Nat} {s : S} (R : Rep h b p s) (hs : p .sto = n) (hb : b ≤ h.length)
include R hs hb
theorem Rep.mvWeak' (l : List (Option Nat)) : ∃ h' p', putX (.ref n) (.str "weak") (.ref h.length) (h ++ [.lst (l.map oU)]) = .ok () h' ∧ Rep h' b p' { s with weak := l } ∧ p' .sto = n ∧ Go h b h' := by
  subst hs
  exact ⟨_, _, (R.mvWeak hb l).1, (R.mvWeak hb l).2, plc_sto _ _ (by simp), go_mv hb (R.ge .sto trivial)⟩
theorem Rep.mvWish' (l : List Nat) : ∃ h' p', putX (.ref n) (.str "wish") (.ref h.length) (h ++ [.lst (l.map nU)]) = .ok () h' ∧ Rep h' b p' { s with wish := l } ∧ p' .sto = n ∧ Go h b h' := by
  subst hs
  exact ⟨_, _, (R.mvWish hb l).1, (R.mvWish hb l).2, plc_sto _ _ (by simp), go_mv hb (R.ge .sto trivial)⟩
theorem Rep.mvQueue' (l : List Nat) : ∃ h' p', putX (.ref n) (.str "queue") (.ref h.length) (h ++ [.lst (l.map nU)]) = .ok () h' ∧ Rep h' b p' { s with queue := l } ∧ p' .sto = n ∧ Go h b h' := by
  subst hs
  exact ⟨_, _, (R.mvQueue hb l).1, (R.mvQueue hb l).2, plc_sto _ _ (by simp), go_mv hb (R.ge .sto trivial)⟩
end
theorem filt_o (f : List Nat) (o : Option Nat) : (if isIn o f = true then oU o else .non) = oU (o.filter fun y => f.contains y) := by
  cases o with
  | none => rfl
  | some x =>
    rw [Option.filter_some]
    show (if f.contains x = true then oU (some x) else .non) = _
    by_cases e : f.contains x = true
    · rw [if_pos e, if_pos e]
    · rw [if_neg e, if_neg e]; rfl
theorem comp_weak {s : Src} {h : IH} (a : s.At h) {f : List Nat} {ρ : Env} (h1 : ρ[1]? = some (some (.lst (f.map nU)))) (h3 : 3 < ρ.length) (l : List (Option Nat)) (hl : l.length ≤ 16777216) :
    compGo s (nmG 3) yesB (ifE (asB (bin (hasU false) (vE 3) (vE 1))) (vE 3) (cE .non)) ρ (l.map oU) h [] = .ok ((l.map fun o => o.filter fun y => f.contains y).map oU) h := by
  rw [compGo_map oU (fun o => ρ.set 3 (some (oU o))) (fun _ => true) (fun o => oU (o.filter fun y => f.contains y)) a l [] (fun o ho => ⟨rfl, rfl, fun _ => ?_⟩) (by simpa using hl)]
  · rw [List.filter_eq_self.mpr (by simp), List.map_map]; rfl
  · have v3 := vE_g (u := oU o) h (ρ := ρ.set 3 (some (oU o))) (i := 3) (by simp [h3])
    have v1 := vE_g (u := .lst (f.map nU)) h (ρ := ρ.set 3 (some (oU o))) (i := 1) (by rw [List.getElem?_set_ne (by decide)]; exact h1)
    rw [ifE_e, asB_e, bin_e, v3, bin1_ok, v1, bin2_ok, has_l]
    simp only [Bool.false_eq_true, if_false, asB1_ok, ofB_b, ifE1_ok, v3, cE_e, ite_ok, filt_o]
theorem comp_wish (neg : Bool) {s : Src} {h : IH} (a : s.At h) {f : List Nat} {ρ : Env} (h1 : ρ[1]? = some (some (.lst (f.map nU)))) (h3 : 3 < ρ.length) (l : List Nat) (hl : l.length ≤ 16777216) :
    compGo s (nmG 3) (asB (bin (hasU neg) (vE 3) (vE 1))) (vE 3) ρ (l.map nU) h [] = .ok ((l.filter fun x => if neg then !f.contains x else f.contains x).map nU) h := by
  rw [compGo_map nU (fun o => ρ.set 3 (some (nU o))) (fun x => if neg then !f.contains x else f.contains x) nU a l [] (fun o ho => ⟨rfl, ?_, fun _ => ?_⟩) (by simpa using hl)]
  · rfl
  · have v3 := vE_g (u := nU o) h (ρ := ρ.set 3 (some (nU o))) (i := 3) (by simp [h3])
    have v1 := vE_g (u := .lst (f.map nU)) h (ρ := ρ.set 3 (some (nU o))) (i := 1) (by rw [List.getElem?_set_ne (by decide)]; exact h1)
    rw [asB_e, bin_e, v3, bin1_ok, v1, bin2_ok, show nU o = oU (some o) from rfl, has_l]
    rfl
  · exact vE_g (u := nU o) h (ρ := ρ.set 3 (some (nU o))) (i := 3) (by simp [h3])
theorem add_r (md : Bool) {h : IH} {n : Nat} {xs ys : List U} (e : h[n]? = some (.lst xs)) : addU md (.ref n) (.lst ys) h = newL md (xs ++ ys) h := by
  unfold addU
  simp only [itO, e]
theorem newL_T {h : IH} {xs : List U} (l : xs.length ≤ 16777216) : newL true xs h = .ok (.ref h.length) (h ++ [.lst xs]) := newL_t h _ (by rw [sizeL]; exact l)
end PD

set_option Elab.async false
set_option linter.all false
set_option maxRecDepth 100000
set_option maxHeartbeats 4000000
namespace PD.K76
open PySem PySem.Spec PyProof.Rows L2
variable (G : Glb)
theorem gather_e {s : S} {h : IH} {b : Nat} {p : Ro → Nat} (R : Rep h b p s) (w : s.WF) (hn : s.lks.length < 16777215) (hq : s.wish.length + s.queue.length ≤ 16777216) (hwk : s.weak.length ≤ 16777216) (hb : b ≤ h.length) :
    ∃ h' p', f_u_law_gather G [.ref (p .sto)] h = .ok (s.an .gather).u h' ∧ Rep h' b p' (s.st .gather) ∧ p' .sto = p .sto ∧ Go h b h' := by
  have L := led_e G R w hn [.root, .queue] (by intro r hr; simp at hr; rcases hr with rfl | rfl <;> simp [isW])
  rw [show ([Ro.root, Ro.queue].flatMap (row s)) = s.root ++ s.queue.map some by simp [row]] at L
  rw [show s.led (s.root ++ s.queue.map some) = s.gre from rfl] at L
  obtain ⟨h1, p1, m1, R1, s1, g1⟩ := R.mvWeak' rfl hb (s.weak.map fun o => o.filter fun y => s.gre.contains y)
  have b1 := Nat.le_trans hb g1.len
  obtain ⟨h2, p2, m2, R2, s2, g2⟩ := R1.mvWish' s1 b1 (s.wish.filter fun x => s.gre.contains x)
  have b2 := Nat.le_trans b1 g2.len
  obtain ⟨h3, p3, m3, R3, s3, g3⟩ := R2.mvQueue' s2 b2 (s.queue ++ s.wish.filter fun x => !s.gre.contains x)
  refine ⟨_, _, ?_, R3, s3, go_trans (go_trans g1 g2) g3⟩
  show fnR 4 1 (c_u_law_gather G) _ h = _
  rw [fnR_e]
  have k1 := R1.sb_wish G.tab
  have k2 := R2.sb_queue G.tab
  rw [s1] at k1
  rw [s2] at k2
  have fl : (s.wish.filter fun x => !s.gre.contains x).length ≤ s.wish.length := List.length_filter_le _ _
  have c1 := comp_weak (s := { items := s.weak.map oU, chk := [(p .weak, s.weak.map oU)] }) (h := h) (at_ref (R.at_ .weak trivial)) (f := s.gre) (ρ := [some (.ref (p .sto)), some (.lst (s.gre.map nU)), none, none]) rfl (by simp) s.weak hwk
  have c2 := comp_wish true (s := { items := s.wish.map nU, chk := [(p1 .wish, s.wish.map nU)] }) (h := h1) (at_ref (R1.at_ .wish trivial)) (f := s.gre) (ρ := [some (.ref (p .sto)), some (.lst (s.gre.map nU)), none, none]) rfl (by simp) s.wish (by omega)
  have c3 := comp_wish false (s := { items := s.wish.map nU, chk := [(p1 .wish, s.wish.map nU)] }) (h := h1) (at_ref (R1.at_ .wish trivial)) (f := s.gre) (ρ := [some (.ref (p .sto)), some (.lst (s.gre.map nU)), some (.lst ((s.wish.filter fun x => !s.gre.contains x).map nU)), none]) rfl (by simp) s.wish (by omega)
  simp only [if_true, Bool.false_eq_true, if_false] at c2 c3
  have a3 := add_r true (ys := (s.wish.filter fun x => !s.gre.contains x).map nU) (R2.at_ .queue trivial)
  dsimp only at a3
  rw [newL_T (by rw [List.length_append, List.length_map, List.length_map]; omega), ← List.map_append] at a3
  have wd1 : Ro.wd .root = "root" := rfl
  have wd2 : Ro.wd .queue = "queue" := rfl
  simp only [List.map_cons, List.map_nil, wd1, wd2] at L
  simp [c_u_law_gather, L, R.sb_weak, src_ref (R.at_ .weak trivial), wipeE, c1, -putX_r, m1, k1, src_ref (R1.at_ .wish trivial), c2, c3, m2, k2, a3, m3, S.an, S.do, An.u, -compGo_c, -compGo_n, -List.map_map, -List.map_append, -List.contains_eq_mem]
end PD.K76

set_option Elab.async false
set_option linter.all false
set_option maxRecDepth 100000
set_option maxHeartbeats 4000000
namespace PD
open PySem PySem.Spec PyProof.Rows L2
theorem mul_l {x : U} {n : Nat} {h : IH} (l : n ≤ 1000) : mulU true (.lst [x]) (.int (n : Int)) h = .ok (.ref h.length) (h ++ [.lst (List.replicate n x)]) := by
  have e : (List.replicate n [x]).flatten = List.replicate n x := by
    induction n with
    | zero => rfl
    | succ n ih => rw [List.replicate_succ, List.flatten_cons, ih (by omega)]; rfl
  unfold mulU
  simp only [itO, Int.toNat_natCast, e]
  rw [if_pos (by
    rw [sizeL]
    simp only [Bool.and_eq_true, decide_eq_true_eq, List.length_cons, List.length_nil]
    omega), newL_T (by simp; omega)]
end PD

set_option Elab.async false
set_option linter.all false
set_option maxRecDepth 100000
set_option maxHeartbeats 4000000
namespace PD.K76
open PySem PySem.Spec PyProof.Rows L2
variable (G : Glb)
noncomputable def newE : EM := lstE true (consA (bin (mulU true) (lstE false (consA (cE .non) (nilA))) (bin (sbU G.tab) (vE 1) (cE (.int 2)))) (consA (bin (mulU true) (lstE false (consA (cE (.int 0)) (nilA))) (bin (sbU G.tab) (vE 1) (cE (.int 3)))) (consA (cE (.bl false)) (nilA))))
theorem newE_e {a c : Nat} (ha : a ≤ 1000) (hc : c ≤ 1000) {ρ : Env} {h : IH} {x y : U} (h1 : ρ[1]? = some (some (.tup [x, y, .int a, .int c]))) :
    newE G ρ h = .ok (.ref (h.length + 2)) (h ++ [O.lst (List.replicate a U.non), O.lst (List.replicate c (U.int 0)), O.lst [U.ref h.length, U.ref (h.length + 1), U.bl false]]) := by
  have v : ∀ g, vE 1 ρ g = .ok (.tup [x, y, .int a, .int c]) g := fun g => vE_g _ _ h1
  unfold newE
  rw [lstE_e, consA_e, bin_e, lstE_e, consA_e, cE_e, consA1_ok, nilA_e, consA2_ok, lstE1_ok, newL_1 _ _ _ (Nat.zero_le _), bin1_ok, bin_e, v, bin1_ok, cE_e, bin2_ok, sb_t, nth_2, bin2_ok, mul_l ha, consA1_ok, consA_e, bin_e, lstE_e, consA_e, cE_e, consA1_ok, nilA_e, consA2_ok, lstE1_ok, newL_1 _ _ _ (Nat.zero_le _), bin1_ok, bin_e, v, bin1_ok, cE_e, bin2_ok, sb_t, nth_3, bin2_ok, mul_l hc, consA1_ok, consA_e, cE_e, consA1_ok, nilA_e, consA2_ok, consA2_ok, consA2_ok, lstE1_ok, newL_T (by simp)]
  simp
theorem do_new {s : S} {h : IH} {b : Nat} {p : Ro → Nat} (R : Rep h b p s) (w : s.WF) (hb : b ≤ h.length) (hn : s.lks.length < 16777215) {r a c : Nat} (hd : (D.new r a c).ok s.root.length) :
    ∃ h' p', f_u_law_do G [.ref (p .sto), (D.new r a c).u] h = .ok (s.an (D.new r a c)).u h' ∧ Rep h' b p' (s.st (D.new r a c)) ∧ p' .sto = p .sto ∧ Go h b h' := by
  simp only [D.ok] at hd
  have R2 := R.new w hb (List.replicate a none) (List.replicate c 0)
  have e0 : plN p s.lks.length h.length .sto = p .sto := by simp [plN, plc]
  have e1 : plN p s.lks.length h.length .root = p .root := by simp [plN, plc]
  have e2 : plN p s.lks.length h.length .objs = p .objs := by simp [plN, plc]
  have R3 := R2.setRoot r (some s.lks.length)
  rw [e1] at R3
  have R1 := R.app [O.lst (List.replicate a U.non), O.lst (List.replicate c (U.int 0)), O.lst [.ref h.length, .ref (h.length + 1), .bl false]]
  have hr := R1.at_ .objs trivial
  have k0 := R.at_ .objs trivial
  have ap := appU_e (u := .ref (h.length + 2)) _ hr (by rw [List.length_map, List.length_range]; omega)
  have q1 := R2.sb_objs G.tab
  rw [e0, e2] at q1
  have q2 := len_ref (R2.at_ .objs trivial)
  rw [e2] at q2
  have q3 := R2.at_ .root trivial
  rw [e1] at q3
  simp only [List.map_replicate, oU_n, oU_s] at R3 q1 q2 q3
  refine ⟨_, _, ?_, R3, e0, go_trans (go_trans (go_app hb) (go_set (R.ge .objs trivial))) (go_set (R.ge .root trivial))⟩
  show fnR 6 2 (c_u_law_do G) _ h = _
  rw [fnR_e]
  simp only [List.length_map, List.length_range, List.length_append, List.length_singleton] at q2
  generalize eg : (h ++ [O.lst (List.replicate a U.non), O.lst (List.replicate c (U.int 0)), O.lst [U.ref h.length, U.ref (h.length + 1), U.bl false]]) = g at *
  generalize eg2 : g.set (p .objs) (.lst ((List.range s.lks.length).map (fun i => U.ref (p (.ob i))) ++ [.ref (h.length + 2)])) = g2 at *
  have ne := newE_e G (show a ≤ 1000 by omega) (show c ≤ 1000 by omega) (h := h) (ρ := [some (.ref (p .sto)), some (.tup [.str "new", .int r, .int a, .int c]), some (.str "new"), some (.ref (p .root)), none, none]) rfl
  rw [eg] at ne
  unfold c_u_law_do
  generalize en : lstE true (consA (bin (mulU true) (lstE false (consA (cE .non) (nilA))) (bin (sbU G.tab) (vE 1) (cE (.int 2)))) (consA (bin (mulU true) (lstE false (consA (cE (.int 0)) (nilA))) (bin (sbU G.tab) (vE 1) (cE (.int 3)))) (consA (cE (.bl false)) (nilA)))) = E
  rw [show newE G = E from en] at ne
  simp [ne, D.u, D.us, eqU_s, S.an, S.do, An.u, hasU_t, hasV, tD, pD, pDs, SeqAt.shaped, PyData.canLay0, PyData.canLayAll0, PyData.depth, PyData.depthAll, PyData.eqv, R.sb_root, R.sb_objs, k0, con, ap, eg, eg2, q1, q2, q3, putO_l, hd.1]
end PD.K76

set_option Elab.async false
set_option linter.all false
set_option maxRecDepth 100000
set_option maxHeartbeats 4000000
namespace PD
open PySem PySem.Spec PyProof.Rows L2
theorem eq_o (h : IH) (a b : Option Nat) : eqU false (oU a) (oU b) h = .ok (.bl (a == b)) h := by
  have sh : ∀ o : Option Nat, ∃ d, tD h (oU o) = some d ∧ SeqAt.shaped d = true ∧ ∀ q e, tD h (oU q) = some e → PyData.eqv d e = (o == q) := by
    intro o
    cases o with
    | none =>
      refine ⟨.none, rfl, rfl, fun q e he => ?_⟩
      cases q <;> (cases he; simp [PyData.eqv])
    | some x =>
      refine ⟨.int x, rfl, by rfl, fun q e he => ?_⟩
      cases q with
      | none => cases he; simp [PyData.eqv]
      | some y => 
        have he : some (PyData.int y) = some e := he
        cases he
        rw [Bool.eq_iff_iff]
        simp [PyData.eqv]
        omega
  obtain ⟨d, e1, e2, e3⟩ := sh a
  obtain ⟨e, f1, f2, _⟩ := sh b
  rw [eqU_d false e1 f1 e2 f2, e3 b e f1]
  rfl
theorem eq_nil_r {h : IH} {n : Nat} {f : List Nat} (e : h[n]? = some (.lst (f.map nU))) : eqU true (.ref n) (.lst []) h = .ok (.bl (!f.isEmpty)) h := by
  have t : tD h (.ref n) = some (.list (f.map nD)) := by
    unfold tD
    dsimp only
    rw [e]
    dsimp only
    rw [pDs_nat]
    rfl
  rw [eqU_d true t (e := .list []) rfl (sh_nat f) (sh_nat [])]
  congr 2
  cases f with
  | nil => simp [PyData.eqv, PyData.eqvAll]
  | cons x f => simp [PyData.eqv, PyData.eqvAll]
theorem sl_ref {h : IH} {n : Nat} {xs : List U} (e : h[n]? = some (.lst xs)) (md : Bool) (lo hi : Option Int) : slU md (.ref n) lo hi h = putL md (cut xs lo hi) h := by
  unfold slU
  simp only [itL, e]
theorem cut_d1 (xs : List U) : cut xs (some 1) none = xs.drop 1 := by
  cases xs with
  | nil => rfl
  | cons x xs => rw [cut_1]; rfl
end PD

set_option Elab.async false
set_option linter.all false
set_option maxRecDepth 100000
set_option maxHeartbeats 4000000
namespace PD.K76
open PySem PySem.Spec PyProof.Rows L2
variable (G : Glb)
theorem do_copy {s : S} {h : IH} {b : Nat} {p : Ro → Nat} (R : Rep h b p s) (w : s.WF) {r t : Nat} (hd : (D.copy r t).ok s.root.length) (hb : b ≤ h.length) (hwk : s.weak.length = 4) :
    ∃ h' p', f_u_law_do G [.ref (p .sto), (D.copy r t).u] h = .ok (s.an (D.copy r t)).u h' ∧ Rep h' b p' (s.st (D.copy r t)) ∧ p' .sto = p .sto ∧ Go h b h' := by
  simp only [D.ok] at hd
  show ∃ h' p', fnR 6 2 (c_u_law_do G) _ h = _ ∧ _
  rw [fnR_e]
  refine ⟨_, p, ?_, R.setRoot r (s.rt t), rfl, go_set (R.ge .root trivial)⟩
  simp [c_u_law_do, D.u, D.us, eqU_s, S.an, S.do, An.u, hasU_t, hasV, tD, pD, pDs, SeqAt.shaped, PyData.canLay0, PyData.canLayAll0, PyData.depth, PyData.depthAll, PyData.eqv, R.sb_root, R.sb_rt _ hd.2, R.at_ .root trivial, con, putO_l, hd.1]
theorem do_clear {s : S} {h : IH} {b : Nat} {p : Ro → Nat} (R : Rep h b p s) (w : s.WF) {r : Nat} (hd : (D.clear r).ok s.root.length) (hb : b ≤ h.length) (hwk : s.weak.length = 4) :
    ∃ h' p', f_u_law_do G [.ref (p .sto), (D.clear r).u] h = .ok (s.an (D.clear r)).u h' ∧ Rep h' b p' (s.st (D.clear r)) ∧ p' .sto = p .sto ∧ Go h b h' := by
  simp only [D.ok] at hd
  show ∃ h' p', fnR 6 2 (c_u_law_do G) _ h = _ ∧ _
  rw [fnR_e]
  refine ⟨_, p, ?_, R.setRoot r none, rfl, go_set (R.ge .root trivial)⟩
  simp [c_u_law_do, D.u, D.us, eqU_s, S.an, S.do, An.u, hasU_t, hasV, tD, pD, pDs, SeqAt.shaped, PyData.canLay0, PyData.canLayAll0, PyData.depth, PyData.depthAll, PyData.eqv, R.sb_root, R.at_ .root trivial, con, putO_l, hd, oU_n]
theorem do_look {s : S} {h : IH} {b : Nat} {p : Ro → Nat} (R : Rep h b p s) (w : s.WF) {r t : Nat} (hd : (D.look r t).ok s.root.length) (hb : b ≤ h.length) (hwk : s.weak.length = 4) :
    ∃ h' p', f_u_law_do G [.ref (p .sto), (D.look r t).u] h = .ok (s.an (D.look r t)).u h' ∧ Rep h' b p' (s.st (D.look r t)) ∧ p' .sto = p .sto ∧ Go h b h' := by
  simp only [D.ok] at hd
  show ∃ h' p', fnR 6 2 (c_u_law_do G) _ h = _ ∧ _
  rw [fnR_e]
  refine ⟨_, p, ?_, R.setRoot r (s.wk t), rfl, go_set (R.ge .root trivial)⟩
  simp [c_u_law_do, D.u, D.us, eqU_s, S.an, S.do, An.u, hasU_t, hasV, tD, pD, pDs, SeqAt.shaped, PyData.canLay0, PyData.canLayAll0, PyData.depth, PyData.depthAll, PyData.eqv, R.sb_root, R.sb_weak, R.sb_wk _ (show t < s.weak.length by omega), R.at_ .root trivial, con, putO_l, hd.1]
theorem do_weak {s : S} {h : IH} {b : Nat} {p : Ro → Nat} (R : Rep h b p s) (w : s.WF) {r t : Nat} (hd : (D.weak t r).ok s.root.length) (hb : b ≤ h.length) (hwk : s.weak.length = 4) :
    ∃ h' p', f_u_law_do G [.ref (p .sto), (D.weak t r).u] h = .ok (s.an (D.weak t r)).u h' ∧ Rep h' b p' (s.st (D.weak t r)) ∧ p' .sto = p .sto ∧ Go h b h' := by
  simp only [D.ok] at hd
  show ∃ h' p', fnR 6 2 (c_u_law_do G) _ h = _ ∧ _
  rw [fnR_e]
  refine ⟨_, p, ?_, R.setWeak t (s.rt r), rfl, go_set (R.ge .weak trivial)⟩
  simp [c_u_law_do, D.u, D.us, eqU_s, S.an, S.do, An.u, hasU_t, hasV, tD, pD, pDs, SeqAt.shaped, PyData.canLay0, PyData.canLayAll0, PyData.depth, PyData.depthAll, PyData.eqv, R.sb_root, R.sb_weak, R.sb_rt _ hd.2, R.at_ .weak trivial, con, putO_l, show t < s.weak.length by omega]
theorem do_same {s : S} {h : IH} {b : Nat} {p : Ro → Nat} (R : Rep h b p s) (w : s.WF) {r t : Nat} (hd : (D.same r t).ok s.root.length) (hb : b ≤ h.length) (hwk : s.weak.length = 4) :
    ∃ h' p', f_u_law_do G [.ref (p .sto), (D.same r t).u] h = .ok (s.an (D.same r t)).u h' ∧ Rep h' b p' (s.st (D.same r t)) ∧ p' .sto = p .sto ∧ Go h b h' := by
  simp only [D.ok] at hd
  show ∃ h' p', fnR 6 2 (c_u_law_do G) _ h = _ ∧ _
  rw [fnR_e]
  refine ⟨h, p, ?_, R, rfl, go_same⟩
  simp [c_u_law_do, D.u, D.us, eqU_s, S.an, S.do, An.u, hasU_t, hasV, tD, pD, pDs, SeqAt.shaped, PyData.canLay0, PyData.canLayAll0, PyData.depth, PyData.depthAll, PyData.eqv, R.sb_root, R.sb_rt _ hd.1, R.sb_rt _ hd.2, eq_o]
theorem do_shape {s : S} {h : IH} {b : Nat} {p : Ro → Nat} (R : Rep h b p s) (w : s.WF) {r : Nat} (hd : (D.shape r).ok s.root.length) (hb : b ≤ h.length) (hwk : s.weak.length = 4) :
    ∃ h' p', f_u_law_do G [.ref (p .sto), (D.shape r).u] h = .ok (s.an (D.shape r)).u h' ∧ Rep h' b p' (s.st (D.shape r)) ∧ p' .sto = p .sto ∧ Go h b h' := by
  simp only [D.ok] at hd
  show ∃ h' p', fnR 6 2 (c_u_law_do G) _ h = _ ∧ _
  rw [fnR_e]
  rcases q : s.rt r with _ | x
  · refine ⟨h, p, ?_, by simpa [S.st, S.do, q] using R, rfl, go_same⟩
    simp [c_u_law_do, D.u, D.us, eqU_s, S.an, S.do, An.u, hasU_t, hasV, tD, pD, pDs, SeqAt.shaped, PyData.canLay0, PyData.canLayAll0, PyData.depth, PyData.depthAll, PyData.eqv, R.sb_root, R.sb_rt _ hd, q, oU_n]
  · have hx := w.rt q
    refine ⟨h, p, ?_, by simpa [S.st, S.do, q] using R, rfl, go_same⟩
    simp [c_u_law_do, D.u, D.us, eqU_s, S.an, S.do, An.u, hasU_t, hasV, tD, pD, pDs, SeqAt.shaped, PyData.canLay0, PyData.canLayAll0, PyData.depth, PyData.depthAll, PyData.eqv, R.sb_root, R.sb_rt _ hd, q, oU_s, R.sb_objs, R.sb_ob _ hx, R.sb_0 _ hx, R.sb_1 _ hx, len_ref (R.at_ (.ln x) hx), len_ref (R.at_ (.nu x) hx)]
theorem do_next {s : S} {h : IH} {b : Nat} {p : Ro → Nat} (R : Rep h b p s) (w : s.WF) {r : Nat} (hd : (D.next r).ok s.root.length) (hb : b ≤ h.length) (hwk : s.weak.length = 4) :
    ∃ h' p', f_u_law_do G [.ref (p .sto), (D.next r).u] h = .ok (s.an (D.next r)).u h' ∧ Rep h' b p' (s.st (D.next r)) ∧ p' .sto = p .sto ∧ Go h b h' := by
  simp only [D.ok] at hd
  show ∃ h' p', fnR 6 2 (c_u_law_do G) _ h = _ ∧ _
  rw [fnR_e]
  have R1 := R.setRoot r s.queue.head?
  have b1 : b ≤ (h.set (p .root) (.lst ((s.root.map oU).set r (oU s.queue.head?)))).length := by simpa using hb
  obtain ⟨h2, p2, m2, R2, s2, g2⟩ := R1.mvQueue' rfl b1 (s.queue.drop 1)
  have k1 := R1.sb_queue G.tab
  have k2 := sl_ref (R1.at_ .queue trivial) true (some 1) none
  rw [cut_d1, ← List.map_drop, putL_t] at k2
  have e1 := eq_nil_r (R.at_ .queue trivial)
  refine ⟨h2, p2, ?_, R2, s2, go_trans (go_set (R.ge .root trivial)) g2⟩
  dsimp only at k2 m2 k1
  have kr := R.at_ .root trivial
  have kq := R.at_ .queue trivial
  have pr : ∀ v, putX (.ref (p .root)) (.int r) v h = .ok () (h.set (p .root) (.lst ((s.root.map oU).set r v))) := fun v => by rw [putX_r, kr, con, putO_l _ _ _ _ _ (by simpa using hd)]
  rcases q : s.queue with _ | ⟨x, l⟩
  · rw [q] at e1 k1 k2 m2
    simp only [List.head?_nil, oU_n, List.drop_nil, List.map_nil, List.length_set] at k1 k2 m2
    simp [c_u_law_do, D.u, D.us, eqU_s, S.an, S.do, An.u, hasU_t, hasV, tD, pD, pDs, SeqAt.shaped, PyData.canLay0, PyData.canLayAll0, PyData.depth, PyData.depthAll, PyData.eqv, R.sb_root, R.sb_queue, e1, kr, con, putO_l, hd, k1, k2, m2, -putX_r, pr]
  · rw [q] at e1 k1 k2 m2
    simp only [List.head?_cons, oU_s, List.drop_succ_cons, List.drop_zero, List.length_set] at k1 k2 m2
    simp [c_u_law_do, D.u, D.us, eqU_s, S.an, S.do, An.u, hasU_t, hasV, tD, pD, pDs, SeqAt.shaped, PyData.canLay0, PyData.canLayAll0, PyData.depth, PyData.depthAll, PyData.eqv, R.sb_root, R.sb_queue, e1, kr, kq, q, con, putO_l, hd, k1, k2, m2, nU, -putX_r, pr]
end PD.K76

set_option Elab.async false
set_option linter.all false
namespace PD
/-! ### how large a store gets -/
structure S.Bd (s : S) (n : Nat) : Prop where
  len : s.lks.length ≤ n
  que : s.wish.length + s.queue.length ≤ n
  lks : ∀ l ∈ s.lks, l.length ≤ 3
  nms : ∀ l ∈ s.nms, l.length ≤ 2 ∧ ∀ v ∈ l, -1000 ≤ v ∧ v ≤ 1000
theorem S.lk_len {s : S} {n : Nat} (b : s.Bd n) (x : Nat) : (s.lk x).length ≤ 3 := by
  unfold S.lk
  cases e : s.lks[x]? with
  | none => simp
  | some l => exact b.lks l (List.mem_of_getElem? e)
theorem S.nm_len {s : S} {n : Nat} (b : s.Bd n) (x : Nat) : (s.nm x).length ≤ 2 ∧ ∀ v ∈ s.nm x, -1000 ≤ v ∧ v ≤ 1000 := by
  unfold S.nm
  cases e : s.nms[x]? with
  | none => simp
  | some l => exact b.nms l (List.mem_of_getElem? e)
theorem S.Bd.mono {s : S} {n m : Nat} (b : s.Bd n) (l : n ≤ m) : s.Bd m := ⟨Nat.le_trans b.len l, Nat.le_trans b.que l, b.lks, b.nms⟩
theorem filt_two {α : Type} (p : α → Bool) : ∀ l : List α, (l.filter p).length + (l.filter fun x => !p x).length = l.length
  | [] => rfl
  | x :: l => by
    have := filt_two p l
    by_cases h : p x = true
    · simp [h]; omega
    · simp [h]; omega
theorem S.Bd.st {s : S} {n m : Nat} (b : s.Bd n) {d : D} (hd : d.ok m) : (s.st d).Bd (n + 1) := by
  have hb := b.mono (Nat.le_succ n)
  cases d with
  | new r a c =>
    simp only [D.ok] at hd
    refine ⟨?_, hb.que, fun l hl => ?_, fun l hl => ?_⟩
    · have := b.len; simp [S.st, S.do]; omega
    · have hl : l ∈ s.lks ++ [List.replicate a none] := hl
      rcases List.mem_append.mp hl with hl | hl
      · exact b.lks l hl
      · simp at hl; subst hl; simp; omega
    · have hl : l ∈ s.nms ++ [List.replicate c 0] := hl
      rcases List.mem_append.mp hl with hl | hl
      · exact b.nms l hl
      · simp at hl; subst hl
        refine ⟨by simp; omega, fun v hv => ?_⟩
        have := List.eq_of_mem_replicate hv
        omega
  | link r i t =>
    unfold S.st S.do
    dsimp only
    split
    · exact hb
    · split
      · refine ⟨by simpa using hb.len, hb.que, fun l hl => ?_, hb.nms⟩
        rcases mem_set' hl with hl | hl
        · exact b.lks l hl
        · subst hl; simpa using S.lk_len b _
      · exact hb
  | write r i v =>
    simp only [D.ok] at hd
    unfold S.st S.do
    dsimp only
    split
    · exact hb
    · split
      · refine ⟨hb.len, hb.que, hb.lks, fun l hl => ?_⟩
        rcases mem_set' hl with hl | hl
        · exact b.nms l hl
        · subst hl
          refine ⟨by simpa using (S.nm_len b _).1, fun u hu => ?_⟩
          rcases mem_set' hu with hu | hu
          · exact (S.nm_len b _).2 u hu
          · subst hu; exact hd.2.2
      · exact hb
  | follow r t i => unfold S.st S.do; dsimp only; split <;> (try split) <;> exact ⟨hb.len, hb.que, hb.lks, hb.nms⟩
  | read r i => unfold S.st S.do; dsimp only; split <;> (try split) <;> exact hb
  | shape r => unfold S.st S.do; dsimp only; split <;> exact hb
  | wish r =>
    unfold S.st S.do
    dsimp only
    split
    · exact hb
    · split
      · exact hb
      · refine ⟨hb.len, ?_, hb.lks, hb.nms⟩
        have := b.que
        simp; omega
  | next r =>
    refine ⟨hb.len, ?_, hb.lks, hb.nms⟩
    have := b.que
    simp [S.st, S.do]; omega
  | gather =>
    refine ⟨hb.len, ?_, hb.lks, hb.nms⟩
    have := b.que
    have := filt_two (fun x => s.gre.contains x) s.wish
    show (s.wish.filter fun x => s.gre.contains x).length + (s.queue ++ s.wish.filter fun x => !s.gre.contains x).length ≤ n + 1
    rw [List.length_append]
    omega
  | _ => exact ⟨hb.len, hb.que, hb.lks, hb.nms⟩
theorem root_len (s : S) (d : D) : (s.st d).root.length = s.root.length := by
  cases d <;> simp [S.st, S.do]
  all_goals (try (split <;> try split)) <;> simp
theorem weak_len (s : S) (d : D) : (s.st d).weak.length = s.weak.length := by
  cases d <;> simp [S.st, S.do]
  all_goals (try (split <;> try split)) <;> simp
theorem S.Bd.empty (m : Nat) : (S.empty m).Bd 0 := ⟨by simp [S.empty], by simp [S.empty], by simp [S.empty], by simp [S.empty]⟩
end PD

set_option Elab.async false
set_option linter.all false
set_option maxRecDepth 100000
set_option maxHeartbeats 4000000
namespace PD.K76
open PySem PySem.Spec PyProof.Rows L2
variable (G : Glb)
theorem do_e {s : S} {h : IH} {b : Nat} {p : Ro → Nat} (R : Rep h b p s) (w : s.WF) {n : Nat} (B : s.Bd n) (hn : n ≤ 1000) {d : D} (hd : d.ok s.root.length) (hb : b ≤ h.length) (hwk : s.weak.length = 4) :
    ∃ h' p', f_u_law_do G [.ref (p .sto), d.u] h = .ok (s.an d).u h' ∧ Rep h' b p' (s.st d) ∧ p' .sto = p .sto ∧ Go h b h' := by
  have B1 := B.len
  have B2 := B.que
  cases d with
  | new r a c => exact do_new G R w hb (by omega) hd
  | copy r t => exact do_copy G R w hd hb hwk
  | clear r => exact do_clear G R w hd hb hwk
  | look r t => exact do_look G R w hd hb hwk
  | weak r t => exact do_weak G R w hd hb hwk
  | same r t => exact do_same G R w hd hb hwk
  | shape r => exact do_shape G R w hd hb hwk
  | next r => exact do_next G R w hd hb hwk
  | link r i t =>
    obtain ⟨h', e, R', g⟩ := do_link G R w hd
    refine ⟨h', p, ?_, R', rfl, g⟩
    show fnR 6 2 (c_u_law_do G) _ h = _
    rw [fnR_e]
    simp only [D.u, D.us] at e
    simp [c_u_law_do, D.u, D.us, eqU_s, hasU_t, hasV, tD, pD, pDs, SeqAt.shaped, PyData.canLay0, PyData.canLayAll0, PyData.depth, PyData.depthAll, PyData.eqv, R.sb_root, e]
  | follow r i t =>
    obtain ⟨h', e, R', g⟩ := do_follow G R w hd
    refine ⟨h', p, ?_, R', rfl, g⟩
    show fnR 6 2 (c_u_law_do G) _ h = _
    rw [fnR_e]
    simp only [D.u, D.us] at e
    simp [c_u_law_do, D.u, D.us, eqU_s, hasU_t, hasV, tD, pD, pDs, SeqAt.shaped, PyData.canLay0, PyData.canLayAll0, PyData.depth, PyData.depthAll, PyData.eqv, R.sb_root, e]
  | write r i t =>
    obtain ⟨h', e, R', g⟩ := do_write G R w hd
    refine ⟨h', p, ?_, R', rfl, g⟩
    show fnR 6 2 (c_u_law_do G) _ h = _
    rw [fnR_e]
    simp only [D.u, D.us] at e
    simp [c_u_law_do, D.u, D.us, eqU_s, hasU_t, hasV, tD, pD, pDs, SeqAt.shaped, PyData.canLay0, PyData.canLayAll0, PyData.depth, PyData.depthAll, PyData.eqv, R.sb_root, e]
  | read r i =>
    obtain ⟨h', e, R', g⟩ := do_read G R w hd
    refine ⟨h', p, ?_, R', rfl, g⟩
    show fnR 6 2 (c_u_law_do G) _ h = _
    rw [fnR_e]
    simp only [D.u, D.us] at e
    simp [c_u_law_do, D.u, D.us, eqU_s, hasU_t, hasV, tD, pD, pDs, SeqAt.shaped, PyData.canLay0, PyData.canLayAll0, PyData.depth, PyData.depthAll, PyData.eqv, R.sb_root, e]
  | wish r =>
    obtain ⟨h', e, R', g⟩ := wish_e G R w (by omega) hd
    refine ⟨h', p, ?_, R', rfl, g⟩
    show fnR 6 2 (c_u_law_do G) _ h = _
    rw [fnR_e]
    simp [c_u_law_do, D.u, D.us, eqU_s, hasU_t, hasV, tD, pD, pDs, SeqAt.shaped, PyData.canLay0, PyData.canLayAll0, PyData.depth, PyData.depthAll, PyData.eqv, R.sb_root, e]
  | gather =>
    obtain ⟨h', p', e, R', g⟩ := gather_e G R w (by omega) (by omega) (by omega) hb
    refine ⟨h', p', ?_, R', g⟩
    show fnR 6 2 (c_u_law_do G) _ h = _
    rw [fnR_e]
    simp [c_u_law_do, D.u, D.us, eqU_s, hasU_t, hasV, tD, pD, pDs, SeqAt.shaped, PyData.canLay0, PyData.canLayAll0, PyData.depth, PyData.depthAll, PyData.eqv, R.sb_root, e]
end PD.K76

set_option Elab.async false
set_option linter.all false
set_option maxRecDepth 100000
set_option maxHeartbeats 4000000
namespace PD
open PySem PySem.Spec PyProof.Rows L2
/-! ### a picture's parts -/
def numP : List Nat → Nat → List (Option Int × U)
  | [], _ => [(none, .non)]
  | x :: f, i => (some (x : Int), .int (i : Int)) :: numP f (i + 1)
def numD (f : List Nat) : U := .dic ((numP f 0).map (·.1)) ((numP f 0).map (·.2))
theorem zip_two {α β : Type} : ∀ l : List (α × β), (l.map (·.1)).zip (l.map (·.2)) = l
  | [] => rfl
  | (a, b) :: l => by
    show (a, b) :: (l.map (·.1)).zip (l.map (·.2)) = _
    rw [zip_two l]
theorem num_find : ∀ (f : List Nat) (i x : Nat), x ∈ f → (numP f i).find? (fun p => decide (p.1 = some (x : Int))) = some (some (x : Int), .int ((i + f.idxOf x : Nat) : Int))
  | y :: f, i, x, h => by
    unfold numP
    by_cases e : y = x
    · subst e
      rw [List.find?_cons_of_pos (by simp)]
      simp [List.idxOf_cons]
    · have ne : decide (((some (y : Int), U.int (i : Int)) : Option Int × U).1 = some (x : Int)) = false := by simp; omega
      rw [List.find?_cons, ne]
      dsimp only
      rw [num_find f (i + 1) x ((List.mem_cons.mp h).resolve_left fun z => e z.symm)]
      have : (y :: f).idxOf x = f.idxOf x + 1 := by
        rw [List.idxOf_cons, show (y == x) = false by simpa using e]
        rfl
      rw [this, show i + 1 + f.idxOf x = i + (f.idxOf x + 1) by omega]
theorem num_none : ∀ (f : List Nat) (i : Nat), (numP f i).find? (fun p => decide (p.1 = none)) = some (none, .non)
  | [], i => by simp [numP]
  | y :: f, i => by
    unfold numP
    rw [List.find?_cons_of_neg (by simp), num_none f (i + 1)]
theorem dix_num (tab : Addr → Option (List (Str × U))) {f : List Nat} {o : Option Nat} (h : IH) (ho : ∀ x, o = some x → x ∈ f) : sbU tab (numD f) (oU o) h = .ok (oU (o.map f.idxOf)) h := by
  cases o with
  | none =>
    simp only [sbU, isDU, if_true, numD, dixU, oU, zip_two, num_none]
    rfl
  | some x =>
    simp only [sbU, isDU, if_true, numD, dixU, oU, zip_two, num_find f 0 x (ho x rfl)]
    simp [oU]
def enP : List Nat → Nat → List U
  | [], _ => []
  | x :: f, i => .tup [.int (x : Int), .int (i : Int)] :: enP f (i + 1)
theorem prsN_en : ∀ (f : List Nat) (i : Nat), prsN (enP f i ++ [.tup [.non, .non]]) = some (numP f i)
  | [], i => rfl
  | x :: f, i => by
    show (match leafOf (.int (x : Int)), prsN (enP f (i + 1) ++ [.tup [.non, .non]]) with | some k, some t => some ((k, U.int (i : Int)) :: t) | _, _ => none) = _
    rw [prsN_en f (i + 1)]
    rfl
theorem mergeG_new {β : Type} : ∀ (more kvs : List (Option Int × β)), (kvs ++ more).map (·.1) |>.Nodup → mergeG kvs more = kvs ++ more
  | [], kvs, _ => by simp [mergeG]
  | (k, v) :: more, kvs, nd => by
    have hk : (kvs.any fun p => decide (p.1 = k)) = false := by
      rw [List.any_eq_false]
      intro p hp e
      have e : p.1 = k := by simpa using e
      rw [List.map_append, List.nodup_append] at nd
      exact nd.2.2 p.1 (List.mem_map_of_mem hp) k (by simp) e
    show mergeG (putG kvs k v) more = _
    unfold putG
    rw [hk, if_neg (by simp), mergeG_new more _ (by simpa using nd)]
    simp
theorem numP_keys : ∀ (f : List Nat) (i : Nat), (numP f i).map (·.1) = f.map (fun x : Nat => some (x : Int)) ++ [none]
  | [], i => rfl
  | x :: f, i => by
    show some (x : Int) :: (numP f (i + 1)).map (·.1) = _
    rw [numP_keys f (i + 1)]; rfl
theorem numP_nd {f : List Nat} (nd : f.Nodup) (i : Nat) : ((numP f i).map (·.1)).Nodup := by
  rw [numP_keys]
  refine List.nodup_append.mpr ⟨?_, by simp, fun a ha b hb e => ?_⟩
  · exact List.Pairwise.map _ (fun a b h z => h (by have z : some (a : Int) = some (b : Int) := z; simp at z; omega)) nd
  · obtain ⟨x, _, rfl⟩ := List.mem_map.mp ha
    simp at hb
    subst hb
    cases e
theorem dic_num {f : List Nat} (nd : f.Nodup) (h : IH) : dicU (.lst (enP f 0 ++ [.tup [.non, .non]])) h = .ok (numD f) h := by
  unfold dicU
  simp only [itL, prsN_en, numD]
  rw [mergeG_new _ _ (by simpa using numP_nd nd 0)]
  rfl
def enumV (us : List U) (h1 : IH) : R Src := match us with
  | [u] => match u with
    | .lst xs => .ok { items := enumP 0 xs } h1
    | .scr xs => .ok { items := enumP 0 xs } h1
    | .ref n => match h1[n]? with
      | some (.lst xs) => .ok { items := enumP 0 xs, chk := [(n, xs)] } h1
      | _ => .bad
    | _ => .bad
  | _ => .bad
def enum1 (r : R (List U)) : R Src := r.bind fun us h => enumV us h
@[simp] theorem enum1_ok (us : List U) (h : IH) : enum1 (.ok us h) = enumV us h := rfl
@[simp] theorem enumU_e (f : AM) (ρ : Env) (h : IH) : enumU f ρ h = enum1 (f ρ h) := by
  unfold enumU enum1 enumV
  rfl
@[simp] theorem enumV_l (xs : List U) (h : IH) : enumV [.lst xs] h = .ok { items := enumP 0 xs } h := rfl
theorem comp_enum {ys : List U} {h : IH} {ρ : Env} (hl : ρ.length = 12) : ∀ (f : List Nat) (i : Nat) (acc : List U), acc.length + f.length ≤ 16777216 →
    compGo { items := ys } (seqG 2 (consG (nmG 9) (consG (nmG 5) (nilG)))) (yesB) (tupE (consA (vE 5) (consA (vE 9) (nilA)))) ρ (enumP i (f.map nU)) h acc = .ok (acc ++ enP f i) h
  | [], i, acc, _ => by
    show compGo { items := ys } _ _ _ ρ [] h acc = _
    rw [compGo_nil At_nil]; simp [enP]
  | x :: f, i, acc, le => by
    have le : acc.length + (f.length + 1) ≤ 16777216 := le
    show compGo { items := ys } _ _ _ ρ (.tup [.int (i : Int), nU x] :: enumP (i + 1) (f.map nU)) h acc = _
    have v5 := vE_g (u := nU x) h (ρ := (ρ.set 9 (some (.int i))).set 5 (some (nU x))) (i := 5) (by simp [hl])
    have v9 := vE_g (u := .int i) h (ρ := (ρ.set 9 (some (.int i))).set 5 (some (nU x))) (i := 9) (by rw [List.getElem?_set_ne (by decide)]; simp [hl])
    rw [compGo_cons At_nil, seqG_t _ _ _ _ _ (by rfl), consG_e, nmG_e, consG1_ok, consG_e, nmG_e, consG1_ok, nilG_e, noX_ok, cmp1_ok, yesB_e, cmp2_ok, if_pos rfl, tupE_e, consA_e, v5, consA1_ok, consA_e, v9, consA1_ok, nilA_e, consA2_ok, consA2_ok, tupE1_ok, newT_1 _ _ _ (by simp), cmp3_ok, if_pos (by rw [sizeL]; omega), comp_enum hl f (i + 1) _ (by rw [List.length_append]; simp only [List.length_cons, List.length_nil]; omega), List.append_assoc]
    rfl
/-- links, numbered -/
theorem comp_row (tab : Addr → Option (List (Str × U))) {s : Src} {h : IH} (a : s.At h) {f : List Nat} {ρ : Env} {j : Nat} (h2 : ρ[2]? = some (some (numD f))) (hj : j < ρ.length) (hj2 : j ≠ 2) (xs : List (Option Nat)) (hx : ∀ x, some x ∈ xs → x ∈ f) (l : xs.length ≤ 16777216) :
    compGo s (nmG j) yesB (bin (sbU tab) (vE 2) (vE j)) ρ (xs.map oU) h [] = .ok ((xs.map (Option.map f.idxOf)).map oU) h := by
  rw [compGo_map oU (fun o => ρ.set j (some (oU o))) (fun _ => true) (fun o => oU (o.map f.idxOf)) a xs [] (fun o ho => ⟨rfl, rfl, fun _ => ?_⟩) (by simpa using l)]
  · rw [List.filter_eq_self.mpr (by simp), List.map_map]; rfl
  · have v3 := vE_g (u := oU o) h (ρ := ρ.set j (some (oU o))) (i := j) (by simp [hj])
    have v1 := vE_g (u := numD f) h (ρ := ρ.set j (some (oU o))) (i := 2) (by rw [List.getElem?_set_ne hj2]; exact h2)
    rw [bin_e, v1, bin1_ok, v3, bin2_ok, dix_num tab h fun x e => hx x (e ▸ ho)]
@[simp] theorem tupU_l (xs : List U) (h : IH) : tupleU (.lst xs) h = .ok (.tup xs) h := rfl
@[simp] theorem tupU_t (xs : List U) (h : IH) : tupleU (.tup xs) h = .ok (.tup xs) h := rfl
theorem tupU_r {h : IH} {n : Nat} {xs : List U} (e : h[n]? = some (.lst xs)) : tupleU (.ref n) h = .ok (.tup xs) h := by
  unfold tupleU
  simp only [itL, e]
theorem wipe_len (ρ : Env) : ∀ l : List Nat, (wipeE ρ l).length = ρ.length
  | [] => rfl
  | v :: l => by
    show ((wipeE ρ l).set v none).length = _
    rw [List.length_set, wipe_len ρ l]
theorem wipe_ne (ρ : Env) {i : Nat} : ∀ l : List Nat, i ∉ l → (wipeE ρ l)[i]? = ρ[i]?
  | [], _ => rfl
  | v :: l, h => by
    show ((wipeE ρ l).set v none)[i]? = _
    rw [List.getElem?_set_ne (fun z => h (by simp [z])), wipe_ne ρ l fun z => h (by simp [z])]
/-- the row of a word, numbered -/
noncomputable def rowE (tab : Addr → Option (List (Str × U))) : EM := callA (on1 tupleU) (consA (compE false [5] (walkA (bin (sbU tab) (vE 0) (vE 10))) (nmG 5) (yesB) (bin (sbU tab) (vE 2) (vE 5))) (nilA))
theorem rowE_e (tab : Addr → Option (List (Str × U))) {s : S} {h : IH} {b : Nat} {p : Ro → Nat} (R : Rep h b p s) {f : List Nat} {ρ : Env} {r : Ro} (hr : isW r) (hl : ρ.length = 12) (h0 : ρ[0]? = some (some (.ref (p .sto)))) (h2 : ρ[2]? = some (some (numD f))) (h10 : ρ[10]? = some (some (.str r.wd)))
    (hx : ∀ x, some x ∈ row s r → x ∈ f) (l : (row s r).length ≤ 16777216) : rowE tab ρ h = .ok (.tup (((row s r).map (Option.map f.idxOf)).map oU)) h := by
  have a : h[p r]? = some (.lst ((row s r).map oU)) := by rw [R.at_ r (hr.ok _), row_con hr]
  unfold rowE
  rw [callA_e, consA_e, compE_e, walkA_e, bin_e, vE_g _ _ h0, bin1_ok, vE_g _ _ h10, bin2_ok, sb_wd tab R hr, walk1_ok, src_ref a, comp1_ok]
  rw [comp_row tab (at_ref a) (by rw [wipe_ne _ _ (by simp)]; exact h2) (by rw [wipe_len]; omega) (by decide) _ hx l]
  simp
theorem row_len {s : S} (r : Ro) {n : Nat} (h1 : s.root.length ≤ n) (h2 : s.weak.length ≤ n) (h3 : s.wish.length ≤ n) (h4 : s.queue.length ≤ n) : (row s r).length ≤ n := by
  cases r <;> simp [row] <;> assumption
/-- an object, shown -/
noncomputable def objB (tab : Addr → Option (List (Str × U))) : SM := seq (asgS (bin (sbU tab) (bin (sbU tab) (vE 0) (cE (.str "objects"))) (vE 5)) (seqG 3 (consG (nmG 6) (consG (nmG 7) (consG (nmG 8) (nilG)))))) (exprS (bmE appU (vE 4) (consA (tupE (consA (callA (on1 tupleU) (consA (compE false [11] (walkA (vE 6)) (nmG 11) (yesB) (bin (sbU tab) (vE 2) (vE 11))) (nilA))) (consA (callA (on1 tupleU) (consA (vE 7) (nilA))) (consA (vE 8) (nilA))))) (nilA))))
def objV (s : S) (f : List Nat) (x : Nat) : U := .tup [.tup (((s.lk x).map (Option.map f.idxOf)).map oU), .tup ((s.nm x).map U.int), .bl (s.mk_ x)]
theorem objB_e (tab : Addr → Option (List (Str × U))) {s : S} {h : IH} {b : Nat} {p : Ro → Nat} (R : Rep h b p s) {f : List Nat} {ρ : Env} {x : Nat} {acc : List U} (hx : x < s.lks.length) (hl : ρ.length = 12) (h0 : ρ[0]? = some (some (.ref (p .sto)))) (h2 : ρ[2]? = some (some (numD f))) (h4 : ρ[4]? = some (some (.ref h.length))) (h5 : ρ[5]? = some (some (nU x)))
    (hy : ∀ y, some y ∈ s.lk x → y ∈ f) (l : (s.lk x).length ≤ 16777216) (la : acc.length < 16777216) :
    objB tab ρ (h ++ [.lst acc]) = .fl (.nx (((ρ.set 6 (some (.ref (p (.ln x))))).set 7 (some (.ref (p (.nu x))))).set 8 (some (.bl (s.mk_ x))))) (h ++ [.lst (acc ++ [objV s f x])]) := by
  have Rg := R.app [.lst acc]
  have a1 := Rg.at_ (.ln x) hx
  have a2 := Rg.at_ (.nu x) hx
  have a3 := Rg.at_ (.ob x) hx
  generalize er : ((ρ.set 6 (some (.ref (p (.ln x))))).set 7 (some (.ref (p (.nu x))))).set 8 (some (.bl (s.mk_ x))) = ρ2
  have l2 : ρ2.length = 12 := by rw [← er]; simp [hl]
  have k : ∀ i, i < 6 → ρ2[i]? = ρ[i]? := fun i hi => by rw [← er, List.getElem?_set_ne (by omega), List.getElem?_set_ne (by omega), List.getElem?_set_ne (by omega)]
  have k6 : ρ2[6]? = some (some (.ref (p (.ln x)))) := by rw [← er, List.getElem?_set_ne (by decide), List.getElem?_set_ne (by decide)]; simp [hl]
  have k7 : ρ2[7]? = some (some (.ref (p (.nu x)))) := by rw [← er, List.getElem?_set_ne (by decide)]; simp [hl]
  have k8 : ρ2[8]? = some (some (.bl (s.mk_ x))) := by rw [← er]; simp [hl]
  unfold objB
  rw [seq_e, asgS_e, bin_e, bin_e, vE_g _ _ h0, bin1_ok, cE_e, bin2_ok, Rg.sb_objs, bin1_ok, vE_g _ _ h5, bin2_ok, show nU x = .int x from rfl, Rg.sb_ob _ hx, asg1_ok]
  rw [seqG_e (n := 3) (xs := [.ref (p (.ln x)), .ref (p (.nu x)), .bl (s.mk_ x)]) _ _ _ _ (by simp only [itL]; rw [a3]; rfl) rfl]
  rw [consG_e, nmG_e, consG1_ok, consG_e, nmG_e, consG1_ok, consG_e, nmG_e, consG1_ok, nilG_e, noX_ok, asg2_ok, thn_nx, er]
  rw [exprS_e, bmE_e, vE_g _ _ ((k 4 (by decide)).trans h4), bm1_ok, lstAt_r, get_l, lstO_s, if_pos (by rfl)]
  rw [consA_e, tupE_e, consA_e, callA_e, consA_e, compE_e, walkA_e, vE_g _ _ k6, walk1_ok, src_ref a1, comp1_ok]
  rw [comp_row tab (at_ref a1) (j := 11) (by rw [wipe_ne _ _ (by simp)]; exact (k 2 (by decide)).trans h2) (by rw [wipe_len]; omega) (by decide) _ hy l]
  simp only [comp2_ok, putL_f, consA1_ok, nilA_e, consA2_ok, callA1_ok, on1_e, tupU_l, consA_e, callA_e, vE_g _ _ k7, tupU_r a2, vE_g _ _ k8, tupE1_ok]
  rw [newT_1 _ _ _ (by simp), consA1_ok, nilA_e, consA2_ok, bm2_ok, appU_e _ _ get_l la, upd_l, exprS1_ok]
  rfl
theorem oloop (tab : Addr → Option (List (Str × U))) {s : S} {h : IH} {b : Nat} {p : Ro → Nat} (R : Rep h b p s) {f : List Nat} {ys : List U} (cl : ∀ x ∈ f, ∀ y, some y ∈ s.lk x → y ∈ f) (hs : ∀ x, (s.lk x).length ≤ 16777216) : ∀ (g : List Nat) (acc : List U) (ρ : Env), (∀ x ∈ g, x ∈ f ∧ x < s.lks.length) → acc.length + g.length ≤ 16777216 →
    ρ.length = 12 → ρ[0]? = some (some (.ref (p .sto))) → ρ[2]? = some (some (numD f)) → ρ[4]? = some (some (.ref h.length)) →
    ∃ ρ', forGo { items := ys } (nmG 5) (objB tab) (g.map nU) ρ (h ++ [.lst acc]) = .fl (.nx ρ') (h ++ [.lst (acc ++ g.map (objV s f))]) ∧ ρ'[3]? = ρ[3]? ∧ ρ'[4]? = ρ[4]?
  | [], acc, ρ, _, _, _, _, _, _ => ⟨ρ, by rw [List.map_nil, forGo_nil At_nil]; simp, rfl, rfl⟩
  | x :: g, acc, ρ, hg, la, hl, h0, h2, h4 => by
    have la : acc.length + (g.length + 1) ≤ 16777216 := la
    have st := objB_e tab R (f := f) (ρ := ρ.set 5 (some (nU x))) (x := x) (acc := acc) (hg x (by simp)).2 (by simpa using hl) (by rw [List.getElem?_set_ne (by decide)]; exact h0) (by rw [List.getElem?_set_ne (by decide)]; exact h2) (by rw [List.getElem?_set_ne (by decide)]; exact h4) (by simp [hl]) (cl x (hg x (by simp)).1) (hs x) (by omega)
    generalize er : ((((ρ.set 5 (some (nU x))).set 6 (some (.ref (p (.ln x))))).set 7 (some (.ref (p (.nu x))))).set 8 (some (.bl (s.mk_ x)))) = ρ2 at st
    have k : ∀ i, i < 5 → ρ2[i]? = ρ[i]? := fun i hi => by rw [← er, List.getElem?_set_ne (by omega), List.getElem?_set_ne (by omega), List.getElem?_set_ne (by omega), List.getElem?_set_ne (by omega)]
    obtain ⟨ρ', e, e3, e4⟩ := oloop tab R (ys := ys) cl hs g (acc ++ [objV s f x]) ρ2 (fun y hy => hg y (by simp [hy])) (by rw [List.length_append]; simp only [List.length_cons, List.length_nil]; omega) (by rw [← er]; simp [hl]) ((k 0 (by decide)).trans h0) ((k 2 (by decide)).trans h2) ((k 4 (by decide)).trans h4)
    refine ⟨ρ', ?_, e3.trans (k 3 (by decide)), e4.trans (k 4 (by decide))⟩
    rw [List.map_cons, forGo_cons At_nil, nmG_e, gthen_ok, st, turn_nx, e, List.append_assoc]
    rfl
theorem low_o (n : Nat) (o : Option Nat) : low n (oU o) = true := by cases o <;> rfl
theorem low_pic (n : Nat) (p : Pic) : low n p.u = true := by
  have a : ∀ l : List (Option Nat), lows n (l.map oU) = true := fun l => lows_all.mpr fun x hx => by obtain ⟨o, _, rfl⟩ := List.mem_map.mp hx; exact low_o n o
  have b : ∀ l : List Nat, lows n (l.map nU) = true := fun l => lows_all.mpr fun x hx => by obtain ⟨o, _, rfl⟩ := List.mem_map.mp hx; rfl
  have c : ∀ l : List Int, lows n (l.map U.int) = true := fun l => lows_all.mpr fun x hx => by obtain ⟨o, _, rfl⟩ := List.mem_map.mp hx; rfl
  unfold Pic.u
  show lows n [_, _, _, _, _] = true
  simp only [lows, Bool.and_true, Bool.and_eq_true]
  refine ⟨a _, a _, b _, b _, lows_all.mpr fun x hx => ?_⟩
  obtain ⟨o, _, rfl⟩ := List.mem_map.mp hx
  show lows n [_, _, _] = true
  simp only [lows, Bool.and_true, Bool.and_eq_true]
  exact ⟨a _, c _, rfl⟩
theorem low_an (n : Nat) (a : An) : low n a.u = true := by cases a <;> rfl
end PD

set_option Elab.async false
set_option linter.all false
set_option maxRecDepth 100000
set_option maxHeartbeats 4000000
namespace PD.K76
open PySem PySem.Spec PyProof.Rows L2
variable (G : Glb)
/-! ### the picture, the run -/
theorem picture_e {s : S} {h : IH} {b : Nat} {p : Ro → Nat} (R : Rep h b p s) (w : s.WF) {n : Nat} (B : s.Bd n) (hn : n ≤ 1000) (hr : s.root.length ≤ 1000) (hwk : s.weak.length = 4) :
    f_u_law_picture G [.ref (p .sto)] h = .ok s.pic.u h := by
  have B1 := B.len
  have B2 := B.que
  have hw4 : ∀ r ∈ [Ro.root, Ro.weak, Ro.wish, Ro.queue], isW r := by intro r hr; simp at hr; rcases hr with rfl | rfl | rfl | rfl <;> simp [isW]
  have L := led_e G R w (by omega) [.root, .weak, .wish, .queue] hw4
  rw [show ([Ro.root, Ro.weak, Ro.wish, Ro.queue].flatMap (row s)) = s.all by simp [row, S.all]] at L
  rw [show s.led s.all = s.order from rfl] at L
  simp only [List.map_cons, List.map_nil] at L
  have ol : s.order.length ≤ 1000 := Nat.le_trans (nodup_len order_nodup (order_lt w)) (by omega)
  have inO : ∀ r x, some x ∈ row s r → x ∈ s.order := by
    intro r x hx
    refine led_has ?_
    unfold S.all
    cases r <;> simp [row] at hx <;> simp [hx]
  have rl : ∀ r, (row s r).length ≤ 16777216 := fun r => row_len r (by omega) (by omega) (by omega) (by omega)
  obtain ⟨ρ', e, e3, e4⟩ := oloop G.tab R (f := s.order) (ys := s.order.map nU) (fun x hx y hy => order_closed w hx hy) (fun x => by have := S.lk_len B x; omega) s.order []
    [some (.ref (p .sto)), some (.lst (s.order.map nU)), some (numD s.order), some (.lst ([Ro.root, Ro.weak, Ro.wish, Ro.queue].map fun r => .tup (((row s r).map (Option.map s.order.idxOf)).map oU))), some (.ref h.length), none, none, none, none, none, none, none]
    (fun x hx => ⟨hx, order_lt w x hx⟩) (by simp; omega) rfl rfl rfl rfl
  refine pop_grow (g := [.lst (s.order.map (objV s s.order))]) ?_ ?_
  · rw [fnR_e]
    show (seq _ (seq (asgS (callA (on1 dicU) (consA (bin (addU false) (compE false [9, 5] (enumU (consA (vE 1) (nilA))) (seqG 2 (consG (nmG 9) (consG (nmG 5) (nilG)))) (yesB) (tupE (consA (vE 5) (consA (vE 9) (nilA))))) (lstE false (consA (tupE (consA (cE .non) (consA (cE .non) (nilA)))) (nilA)))) (nilA))) (nmG 2))
      (seq (asgS (compE false [10] (walkA (lstE false (consA (cE (.str "root")) (consA (cE (.str "weak")) (consA (cE (.str "wish")) (consA (cE (.str "queue")) (nilA))))))) (nmG 10) (yesB) (rowE G.tab)) (nmG 3)) (seq (asgS (lstE true (nilA)) (nmG 4)) (seq (forS (walkA (vE 1)) (nmG 5) (objB G.tab)) _)))) _ h).fin = _
    have w1 : Ro.root.wd = "root" := rfl
    have w2 : Ro.weak.wd = "weak" := rfl
    have w3 : Ro.wish.wd = "wish" := rfl
    have w4 : Ro.queue.wd = "queue" := rfl
    rw [w1, w2, w3, w4] at L
    have ce := comp_enum (ys := enumP 0 (s.order.map nU)) (h := h) (ρ := [some (.ref (p .sto)), some (.lst (s.order.map nU)), none, none, none, none, none, none, none, none, none, none]) rfl s.order 0 [] (by simp; omega)
    rw [List.nil_append] at ce
    have ad : addU false (.lst (enP s.order 0)) (.lst [.tup [.non, .non]]) h = .ok (.lst (enP s.order 0 ++ [.tup [.non, .non]])) h := by
      have enl : ∀ (f : List Nat) (i : Nat), (enP f i).length = f.length := by
        intro f
        induction f with
        | nil => intro i; rfl
        | cons x f ih => intro i; show (enP f (i + 1)).length + 1 = f.length + 1; rw [ih]
      unfold addU
      simp only [itO]
      rw [newL_f _ _ (by rw [sizeL]; simp [enl]; omega)]
    have rw_ : ∀ (ρ : Env) (r : Ro), r ∈ [Ro.root, Ro.weak, Ro.wish, Ro.queue] → ρ.length = 12 → ρ[0]? = some (some (.ref (p .sto))) → ρ[2]? = some (some (numD s.order)) → ρ[10]? = some (some (.str r.wd)) → rowE G.tab ρ h = .ok (.tup (((row s r).map (Option.map s.order.idxOf)).map oU)) h :=
      fun ρ r hr hl h0 h2 h10 => rowE_e G.tab R (hw4 r hr) hl h0 h2 h10 (fun x => inO r x) (rl r)
    have r1 := fun ρ => rw_ ρ .root (by simp)
    have r2 := fun ρ => rw_ ρ .weak (by simp)
    have r3 := fun ρ => rw_ ρ .wish (by simp)
    have r4 := fun ρ => rw_ ρ .queue (by simp)
    rw [w1] at r1
    rw [w2] at r2
    rw [w3] at r3
    rw [w4] at r4
    have cr : compGo { items := [U.str "root", U.str "weak", U.str "wish", U.str "queue"] } (nmG 10) yesB (rowE G.tab) [some (.ref (p .sto)), some (.lst (s.order.map nU)), some (numD s.order), none, none, none, none, none, none, none, none, none] [U.str "root", U.str "weak", U.str "wish", U.str "queue"] h [] =
        .ok ([Ro.root, Ro.weak, Ro.wish, Ro.queue].map fun r => U.tup (((row s r).map (Option.map s.order.idxOf)).map oU)) h := by
      simp [r1, r2, r3, r4, -List.map_map]
    generalize eq : ([Ro.root, Ro.weak, Ro.wish, Ro.queue].map fun r => U.tup (((row s r).map (Option.map s.order.idxOf)).map oU)) = rows at *
    rw [List.nil_append] at e
    have v3 : ∀ g, vE 3 ρ' g = .ok (.lst rows) g := fun g => vE_g _ _ (e3.trans rfl)
    have v4 : ∀ g, vE 4 ρ' g = .ok (.ref h.length) g := fun g => vE_g _ _ (e4.trans rfl)
    have n0 : ∀ g, nthU rows 0 g = .ok (.tup ((s.root.map (Option.map s.order.idxOf)).map oU)) g := fun g => by rw [← eq]; simp [row]
    have n1 : ∀ g, nthU rows 1 g = .ok (.tup ((s.weak.map (Option.map s.order.idxOf)).map oU)) g := fun g => by rw [← eq]; simp [row]
    have n2 : ∀ g, nthU rows 2 g = .ok (.tup ((s.wish.map s.order.idxOf).map nU)) g := fun g => by rw [← eq]; simp [row, Function.comp_def, oU, nU]
    have n3 : ∀ g, nthU rows 3 g = .ok (.tup ((s.queue.map s.order.idxOf).map nU)) g := fun g => by rw [← eq]; simp [row, Function.comp_def, oU, nU]
    simp [L, wipeE, ce, ad, dic_num order_nodup, cr, e, v3, v4, -compGo_c, -compGo_n, -forGo_c, -forGo_n, -List.map_map, tupU_r get_l, n0, n1, n2, n3]
    simp [S.pic, Pic.u, objV]
  · exact low_pic _ _
end PD.K76

set_option Elab.async false
set_option linter.all false
set_option maxRecDepth 100000
set_option maxHeartbeats 4000000
namespace PD.K76
open PySem PySem.Spec PyProof.Rows L2
variable (G : Glb)
def pl0 (l : Nat) : Ro → Nat
  | .sto => l
  | .root => l + 1
  | .weak => l + 2
  | .wish => l + 3
  | .queue => l + 4
  | .objs => l + 5
  | _ => 0
def hs0 (h : IH) (n : Nat) : IH := h ++ [O.dk (stoK (pl0 h.length)), O.lst (List.replicate n U.non), O.lst (List.replicate 4 U.non), O.lst [], O.lst [], O.lst []]
theorem rep0 (h : IH) (n : Nat) : Rep (hs0 h n) h.length (pl0 h.length) (S.empty n) := by
  refine ⟨fun r hr => ?_, fun r q hr hq e => ?_, fun r hr => ?_⟩
  · cases r <;> simp [Ro.ok, S.empty] at hr <;> simp [pl0, hs0, con, S.empty, List.getElem?_append_right, oU_n]
  · cases r <;> simp [Ro.ok, S.empty] at hr <;> cases q <;> simp [Ro.ok, S.empty] at hq <;> simp [pl0] at e ⊢
  · cases r <;> simp [Ro.ok, S.empty] at hr <;> simp [pl0]
noncomputable def mulE (f : EM) : EM := bin (mulU true) (lstE false (consA (cE .non) (nilA))) f
theorem mulE_e {n : Nat} (hn : n ≤ 1000) {f : EM} {ρ : Env} {h : IH} (e : f ρ h = .ok (.int n) h) : mulE f ρ h = .ok (.ref h.length) (h ++ [.lst (List.replicate n .non)]) := by
  unfold mulE
  rw [bin_e, lstE_e, consA_e, cE_e, consA1_ok, nilA_e, consA2_ok, lstE1_ok, newL_1 _ _ _ (Nat.zero_le _), bin1_ok, e, bin2_ok, mul_l hn]
theorem store_e {n : Nat} (hn : n ≤ 1000) (h : IH) : f_u_law_store G [.int n] h = .ok (.ref h.length) (hs0 h n) := by
  show fnR 1 1 (c_u_law_store G) _ h = _
  rw [fnR_e]
  unfold c_u_law_store
  generalize e1 : bin (mulU true) (lstE false (consA (cE .non) (nilA))) (vE 0) = E1
  generalize e2 : bin (mulU true) (lstE false (consA (cE .non) (nilA))) (cE (.int 4)) = E2
  have m1 : ∀ g, E1 [some (.int n)] g = .ok (.ref g.length) (g ++ [.lst (List.replicate n .non)]) := fun g => by rw [← e1]; exact mulE_e hn rfl
  have m2 : ∀ g, E2 [some (.int n)] g = .ok (.ref g.length) (g ++ [.lst (List.replicate 4 .non)]) := fun g => by rw [← e2]; exact mulE_e (n := 4) (by decide) rfl
  simp -implicitDefEqProofs [m1, m2, hs0, stoK, pl0, mergeD, putD]
theorem run_loop {ys : List U} {b : Nat} {N : Nat} (hN : N ≤ 1000) : ∀ (ds : List D) (acc : List U) (s : S) (h : IH) (p : Ro → Nat) (ρ : Env), Rep h b p s → s.WF → ∀ n, s.Bd n → n + ds.length ≤ N → acc.length + ds.length ≤ N → (∀ d ∈ ds, d.ok s.root.length) → b ≤ h.length → s.weak.length = 4 →
    ρ[1]? = some (some (.ref (p .sto))) → 3 < ρ.length →
    ∃ h' p', compGo { items := ys } (nmG 3) (yesB) (callF 2 (f_u_law_do G) (consA (vE 1) (consA (vE 3) (nilA)))) ρ (ds.map D.u) h acc = .ok (acc ++ (s.run ds).2.map An.u) h' ∧ Rep h' b p' (s.run ds).1 ∧ p' .sto = p .sto ∧ Go h b h'
  | [], acc, s, h, p, ρ, R, w, n, B, _, _, _, hb, hwk, h1, h3 => ⟨h, p, by rw [List.map_nil, compGo_nil At_nil]; simp [S.run], R, rfl, go_same⟩
  | d :: ds, acc, s, h, p, ρ, R, w, n, B, ln, la, hd, hb, hwk, h1, h3 => by
    have ln : n + (ds.length + 1) ≤ N := ln
    have la : acc.length + (ds.length + 1) ≤ N := la
    obtain ⟨g, q, e, R1, s1, g1⟩ := do_e G R w B (by omega) (hd d (by simp)) hb hwk
    have b1 := Nat.le_trans hb g1.len
    obtain ⟨g2, q2, e2, R2, s2, g3⟩ := run_loop hN ds (acc ++ [(s.an d).u]) (s.st d) g q ρ R1 (w.st d) (n + 1) (B.st (hd d (by simp))) (by omega) (by rw [List.length_append]; simp only [List.length_cons, List.length_nil]; omega) (fun x hx => by rw [root_len]; exact hd x (by simp [hx])) b1 (by rw [weak_len]; exact hwk) (by rw [s1]; exact h1) h3
    refine ⟨g2, q2, ?_, R2, s2.trans s1, go_trans g1 g3⟩
    have v1 := vE_g (u := .ref (p .sto)) h (ρ := ρ.set 3 (some d.u)) (i := 1) (by rw [List.getElem?_set_ne (by decide)]; exact h1)
    have v3 := vE_g (u := d.u) h (ρ := ρ.set 3 (some d.u)) (i := 3) (by simp [h3])
    rw [List.map_cons, compGo_cons At_nil, nmG_e, cmp1_ok, yesB_e, cmp2_ok, if_pos rfl, callF_e, consA_e, v1, consA1_ok, consA_e, v3, consA1_ok, nilA_e, consA2_ok, consA2_ok, callF1_ok, if_pos (by rfl), e, cmp3_ok, if_pos (by rw [sizeL]; omega), e2, List.append_assoc]
    rfl
/-- a program's run: what it answers, and its picture -/
def runU (m : Nat) (ds : List D) : U := .tup [.tup (((S.empty m).run ds).2.map An.u), ((S.empty m).run ds).1.pic.u]
theorem run_root (s : S) (ds : List D) : (s.run ds).1.root.length = s.root.length := by
  induction ds generalizing s with
  | nil => rfl
  | cons d ds ih => exact (ih _).trans (root_len s d)
theorem run_weak (s : S) (ds : List D) : (s.run ds).1.weak.length = s.weak.length := by
  induction ds generalizing s with
  | nil => rfl
  | cons d ds ih => exact (ih _).trans (weak_len s d)
theorem run_bd {s : S} {n m : Nat} (B : s.Bd n) {ds : List D} (h : ∀ d ∈ ds, d.ok m) : (s.run ds).1.Bd (n + ds.length) := by
  induction ds generalizing s n with
  | nil => exact B
  | cons d ds ih =>
    have := ih (B.st (h d (by simp))) fun x hx => h x (by simp [hx])
    rw [List.length_cons, show n + (ds.length + 1) = n + 1 + ds.length by omega]
    exact this
theorem run_e (m : Nat) (ds : List D) (h : IH) (hm : m ≤ 1000) (hl : ds.length ≤ 1000) (hd : ∀ d ∈ ds, d.ok m) : f_u_law_run G [.tup [.int m, .tup (ds.map D.u)]] h = .ok (runU m ds) h := by
  have rl : (S.empty m).root.length = m := by simp [S.empty]
  have wl : (S.empty m).weak.length = 4 := by simp [S.empty]
  obtain ⟨g, q, e, R1, s1, g1⟩ := run_loop G (ys := ds.map D.u) (b := h.length) (N := 1000) (by decide) ds [] (S.empty m) (hs0 h m) (pl0 h.length) [some (.tup [.int m, .tup (ds.map D.u)]), some (.ref h.length), none, none] (rep0 h m) (S.WF.empty m) 0 (S.Bd.empty m) (by omega) (by simpa using hl) (by rw [rl]; exact hd) (by simp [hs0]) wl rfl (by simp)
  have pe := picture_e G R1 ((S.WF.empty m).run ds) (run_bd (S.Bd.empty m) hd) (by omega) (by rw [run_root, rl]; exact hm) (by rw [run_weak, wl])
  rw [s1] at pe
  have lw : low h.length (runU m ds) = true := by
    show lows _ [_, _] = true
    simp only [lows, Bool.and_true, Bool.and_eq_true]
    exact ⟨lows_all.mpr fun x hx => by obtain ⟨a, _, rfl⟩ := List.mem_map.mp hx; exact low_an _ a, low_pic _ _⟩
  have gt : g.take h.length = h := by
    refine List.ext_getElem? fun i => ?_
    rw [List.getElem?_take]
    split
    · rename_i hi
      rw [g1.low i hi]
      unfold hs0
      rw [List.getElem?_append_left hi]
    · rw [List.getElem?_eq_none (by omega)]
  have kp : Kpt h g := ⟨Nat.le_trans (by simp [hs0]) g1.len, fun i hi => .inl (by rw [g1.low i hi]; unfold hs0; rw [List.getElem?_append_left hi])⟩
  have := pop_kpt (F := fnR 4 1 (c_u_law_run G)) (us := [.tup [.int m, .tup (ds.map D.u)]]) (h := h) (h' := g) (u := runU m ds) ?_ kp lw
  · rw [gt] at this; exact this
  · rw [fnR_e]
    rw [List.nil_append] at e
    have s0 : pl0 h.length .sto = h.length := rfl
    rw [s0] at pe
    simp -implicitDefEqProofs [c_u_law_run, store_e G hm, wipeE, e, pe, -compGo_c, -compGo_n, runU]
end PD.K76

set_option Elab.async false
set_option linter.all false
set_option maxRecDepth 100000
set_option maxHeartbeats 4000000
namespace PD
open PySem PySem.Spec PyProof.Rows L2
/-! ### numbers, evaluated -/
section
variable {f g : EM} {ρ : Env} {h : IH} {i j : Int} {md : Bool}
theorem Ev.c (u : U) : cE u ρ h = .ok u h := rfl
theorem Ev.add (a : f ρ h = .ok (.int i) h) (b : g ρ h = .ok (.int j) h) : bin (addU md) f g ρ h = .ok (.int (i + j)) h := by rw [bin_e, a, bin1_ok, b, bin2_ok, add_i]
theorem Ev.sub (a : f ρ h = .ok (.int i) h) (b : g ρ h = .ok (.int j) h) : bin subU f g ρ h = .ok (.int (i - j)) h := by rw [bin_e, a, bin1_ok, b, bin2_ok, sub_i]
theorem Ev.mul (a : f ρ h = .ok (.int i) h) (b : g ρ h = .ok (.int j) h) (c : mulC i j = true) : bin (mulU md) f g ρ h = .ok (.int (i * j)) h := by rw [bin_e, a, bin1_ok, b, bin2_ok, mul_i _ _ _ _ c]
theorem Ev.mod (a : f ρ h = .ok (.int i) h) (b : g ρ h = .ok (.int j) h) (c : 0 < j) : bin modU f g ρ h = .ok (.int (i % j)) h := by rw [bin_e, a, bin1_ok, b, bin2_ok, mod_i _ _ _ c]
theorem Ev.div (a : f ρ h = .ok (.int i) h) (b : g ρ h = .ok (.int j) h) (c : 0 < j) (d : j < 1073741824) : bin divU f g ρ h = .ok (.int (i / j)) h := by rw [bin_e, a, bin1_ok, b, bin2_ok, div_i _ _ _ c d]
theorem Ev.pow {n : Nat} (e : n ≤ 1000) (hj : j = (n : Int)) : bin powU (cE (.int 10)) (cE (.int j)) ρ h = .ok (.int (10 ^ n)) h := by
  subst hj
  rw [bin_e, cE_e, bin1_ok, cE_e, bin2_ok, pow_i _ _ _ (by omega) (by omega) (by decide), Int.toNat_natCast]
theorem Ev.int (a : f ρ h = .ok (.int i) h) : callA (on1 intU) (consA f nilA) ρ h = .ok (.int i) h := by rw [callA_e, consA_e, a, consA1_ok, nilA_e, consA2_ok, callA1_ok, on1_e, int_i]
theorem Ev.intB {b : Bool} (a : f ρ h = .ok (.bl b) h) : callA (on1 intU) (consA f nilA) ρ h = .ok (.int (if b = true then 1 else 0)) h := by rw [callA_e, consA_e, a, consA1_ok, nilA_e, consA2_ok, callA1_ok, on1_e, int_b]
theorem Ev.abs (a : f ρ h = .ok (.int i) h) : callA (on1 absU) (consA f nilA) ρ h = .ok (.int (if i < 0 then -i else i)) h := by
  rw [callA_e, consA_e, a, consA1_ok, nilA_e, consA2_ok, callA1_ok, on1_e]
  rfl
theorem Ev.lt (a : f ρ h = .ok (.int i) h) (b : g ρ h = .ok (.int j) h) : bin ltU f g ρ h = .ok (.bl (decide (i < j))) h := by rw [bin_e, a, bin1_ok, b, bin2_ok, lt_e]
theorem Ev.gt (a : f ρ h = .ok (.int i) h) (b : g ρ h = .ok (.int j) h) : bin gtU f g ρ h = .ok (.bl (decide (j < i))) h := by rw [bin_e, a, bin1_ok, b, bin2_ok, gt_e]
end
theorem mulC_r {i j : Int} (h : j.natAbs < 2 ^ 64) : mulC i j = true := by
  unfold mulC
  rw [decide_eq_true h]
  simp
theorem mulC_l {i j : Int} (h : i.natAbs < 2 ^ 64) : mulC i j = true := by
  unfold mulC
  rw [decide_eq_true h]
  simp
theorem mulC_b {i j : Int} (h : i.natAbs < 2 ^ 300) (k : j.natAbs < 2 ^ 300) : mulC i j = true := by
  unfold mulC
  rw [decide_eq_true h, decide_eq_true k]
  simp
/-! ### drawing -/
/-- a well: what is left of a great cell, what is mixed, how often -/
structure Well (h : IH) (w : Nat) (k : Nat) where
  a : Int
  b : Int
  c : Int
  at_ : h[w]? = some (.lst [.int a, .int b, .int c])
  ha : 0 ≤ a
  hb : 0 ≤ b
  hb2 : b < 10 ^ 30
  hc : 0 ≤ c
  hk : c ≤ k
def wA (a b c : Int) : O := .lst [.int a, .int b, .int c]
def dM1 (b st : Int) : Int := ((b + 31) * (st + 5) * 998244353 + st * st * st * 424242427 + 77) % (10 ^ 29 + 319)
def dM2 (m b st : Int) : Int := (m * m + b * 7 + st) % (10 ^ 31 + 33)
def dM3 (m : Int) : Int := (m * m * 3 + m * 11) % (10 ^ 33 + 603)
theorem dM1_b (b st : Int) : 0 ≤ dM1 b st ∧ dM1 b st < 10 ^ 29 + 319 := ⟨Int.emod_nonneg _ (by decide), Int.emod_lt_of_pos _ (by decide)⟩
theorem dM2_b (m b st : Int) : 0 ≤ dM2 m b st ∧ dM2 m b st < 10 ^ 31 + 33 := ⟨Int.emod_nonneg _ (by decide), Int.emod_lt_of_pos _ (by decide)⟩
theorem dM3_b (m : Int) : 0 ≤ dM3 m ∧ dM3 m < 10 ^ 33 + 603 := ⟨Int.emod_nonneg _ (by decide), Int.emod_lt_of_pos _ (by decide)⟩
variable (tab : Addr → Option (List (Str × U)))
noncomputable def dE1 : EM := bin modU (callA (on1 intU) (consA (bin (addU false) (bin (addU false) (bin (mulU false) (bin (mulU false) (bin (addU false) (bin (sbU tab) (vE 0) (cE (.int 1))) (cE (.int 31))) (bin (addU false) (vE 3) (cE (.int 5)))) (cE (.int 998244353))) (bin (mulU false) (bin (mulU false) (bin (mulU false) (vE 3) (vE 3)) (vE 3)) (cE (.int 424242427)))) (cE (.int 77))) (nilA))) (bin (addU false) (bin powU (cE (.int 10)) (cE (.int 29))) (cE (.int 319)))
noncomputable def dE2 : EM := bin modU (callA (on1 intU) (consA (bin (addU false) (bin (addU false) (bin (mulU false) (vE 4) (vE 4)) (bin (mulU false) (bin (sbU tab) (vE 0) (cE (.int 1))) (cE (.int 7)))) (vE 3)) (nilA))) (bin (addU false) (bin powU (cE (.int 10)) (cE (.int 31))) (cE (.int 33)))
noncomputable def dE3 : EM := bin modU (callA (on1 intU) (consA (bin (addU false) (bin (mulU false) (bin (mulU false) (vE 4) (vE 4)) (cE (.int 3))) (bin (mulU false) (vE 4) (cE (.int 11)))) (nilA))) (bin (addU false) (bin powU (cE (.int 10)) (cE (.int 33))) (cE (.int 603)))
theorem sb_w {h : IH} {w : Nat} {a b c : Int} (e : h[w]? = some (.lst [.int a, .int b, .int c])) {f : EM} {ρ : Env} (hf : f ρ h = .ok (.ref w) h) : bin (sbU tab) f (cE (.int 0)) ρ h = .ok (.int a) h ∧ bin (sbU tab) f (cE (.int 1)) ρ h = .ok (.int b) h ∧ bin (sbU tab) f (cE (.int 2)) ρ h = .ok (.int c) h := by
  refine ⟨?_, ?_, ?_⟩ <;> rw [bin_e, hf, bin1_ok, cE_e, bin2_ok, sb_ref, e, sbO_l] <;> simp
theorem put_w0 {h : IH} {w : Nat} {x y z : U} (e : h[w]? = some (.lst [x, y, z])) (u : U) : putX (.ref w) (.int 0) u h = .ok () (h.set w (.lst [u, y, z])) := by
  rw [putX_r, e, show (0 : Int) = ((0 : Nat) : Int) from rfl, putO_l _ _ _ _ _ (by simp)]; rfl
theorem put_w2 {h : IH} {w : Nat} {x y z : U} (e : h[w]? = some (.lst [x, y, z])) (u : U) : putX (.ref w) (.int 2) u h = .ok () (h.set w (.lst [x, y, u])) := by
  rw [putX_r, e, show (2 : Int) = ((2 : Nat) : Int) from rfl, putO_l _ _ _ _ _ (by simp)]; rfl
theorem dE1_e {h : IH} {w : Nat} {a b c : Int} {ρ : Env} (e : h[w]? = some (.lst [.int a, .int b, .int c])) (h0 : ρ[0]? = some (some (.ref w))) (h3 : ρ[3]? = some (some (.int c))) (hc : 0 ≤ c) (hk : c < 1000000) :
    dE1 tab ρ h = .ok (.int (dM1 b c)) h := by
  have v0 := vE_g (u := .ref w) h h0
  have v3 := vE_g (u := .int c) h h3
  have s1 := (sb_w tab e v0).2.1
  exact Ev.mod (Ev.int (Ev.add (Ev.add (Ev.mul (Ev.mul (Ev.add s1 (Ev.c _)) (Ev.add v3 (Ev.c _)) (mulC_r (by omega))) (Ev.c _) (mulC_r (by decide))) (Ev.mul (Ev.mul (Ev.mul v3 v3 (mulC_r (by omega))) v3 (mulC_r (by omega))) (Ev.c _) (mulC_r (by decide)))) (Ev.c _)))
    (Ev.add (Ev.pow (n := 29) (by decide) rfl) (Ev.c _)) (by decide)
theorem dE2_e {h : IH} {w : Nat} {a b c m : Int} {ρ : Env} (e : h[w]? = some (.lst [.int a, .int b, .int c])) (h0 : ρ[0]? = some (some (.ref w))) (h3 : ρ[3]? = some (some (.int c))) (h4 : ρ[4]? = some (some (.int m))) (hm : 0 ≤ m ∧ m < 10 ^ 29 + 319) :
    dE2 tab ρ h = .ok (.int (dM2 m b c)) h := by
  have v0 := vE_g (u := .ref w) h h0
  have v3 := vE_g (u := .int c) h h3
  have v4 := vE_g (u := .int m) h h4
  have s1 := (sb_w tab e v0).2.1
  have hm2 : m.natAbs < 2 ^ 300 := by omega
  exact Ev.mod (Ev.int (Ev.add (Ev.add (Ev.mul v4 v4 (mulC_b hm2 hm2)) (Ev.mul s1 (Ev.c _) (mulC_r (by decide)))) v3)) (Ev.add (Ev.pow (n := 31) (by decide) rfl) (Ev.c _)) (by decide)
theorem dE3_e {h : IH} {m : Int} {ρ : Env} (h4 : ρ[4]? = some (some (.int m))) (hm : 0 ≤ m ∧ m < 10 ^ 31 + 33) : dE3 ρ h = .ok (.int (dM3 m)) h := by
  have v4 := vE_g (u := .int m) h h4
  have hm2 : m.natAbs < 2 ^ 300 := by omega
  exact Ev.mod (Ev.int (Ev.add (Ev.mul (Ev.mul v4 v4 (mulC_b hm2 hm2)) (Ev.c _) (mulC_r (by decide))) (Ev.mul v4 (Ev.c _) (mulC_r (by decide))))) (Ev.add (Ev.pow (n := 33) (by decide) rfl) (Ev.c _)) (by decide)
noncomputable def drawS : SM := seq (ifS (asB (bin gtU (bin (sbU tab) (vE 0) (cE (.int 0))) (cE (.int 0)))) (seq (asgS (bin modU (callA (on1 intU) (consA (bin (sbU tab) (vE 0) (cE (.int 0))) (nilA))) (vE 1)) (nmG 2)) (seq (asgS (bin divU (bin (sbU tab) (vE 0) (cE (.int 0))) (vE 1)) (subG (vE 0) (cE (.int 0)) putX)) (retS (vE 2)))) (nxS)) (seq (asgS (bin (addU false) (bin (sbU tab) (vE 0) (cE (.int 2))) (cE (.int 1))) (subG (vE 0) (cE (.int 2)) putX)) (seq (asgS (bin (sbU tab) (vE 0) (cE (.int 2))) (nmG 3)) (seq (asgS (dE1 tab) (nmG 4)) (seq (asgS (dE2 tab) (nmG 4)) (seq (asgS dE3 (nmG 4)) (retS (bin modU (callA (on1 intU) (consA (bin divU (vE 4) (cE (.int 50021))) (nilA))) (vE 1))))))))
/-- what a draw leaves -/
structure Drew (h h' : IH) (w : Nat) : Prop where
  len : h'.length = h.length
  oth : ∀ i, i ≠ w → h'[i]? = h[i]?
theorem Drew.refl (h : IH) (w : Nat) : Drew h h w := ⟨rfl, fun _ _ => rfl⟩
theorem Drew.trans {h h1 h2 : IH} {w : Nat} (a : Drew h h1 w) (b : Drew h1 h2 w) : Drew h h2 w := ⟨b.len.trans a.len, fun i hi => (b.oth i hi).trans (a.oth i hi)⟩
theorem Drew.set {h : IH} {w : Nat} {o : O} : Drew h (h.set w o) w := ⟨by simp, fun i hi => by rw [List.getElem?_set_ne (Ne.symm hi)]⟩
theorem Drew.go {h h' : IH} {w b : Nat} (a : Drew h h' w) (hb : b ≤ w) : Go h b h' := ⟨Nat.le_of_eq a.len.symm, fun i hi => a.oth i (by omega)⟩
theorem draw_s {h : IH} {w k : Nat} (W : Well h w k) (hk : k < 999999) {m : Nat} (hm : 0 < m) (hm2 : m < 1000000) :
    ∃ (r : Nat) (h' : IH), (drawS tab [some (.ref w), some (.int m), none, none, none] h).fin = .ok (.int r) h' ∧ r < m ∧ Nonempty (Well h' w (k + 1)) ∧ Drew h h' w := by
  obtain ⟨a, b, c, e, ha, hb, hb2, hc, hck⟩ := W
  have hw : w < h.length := (List.getElem?_eq_some_iff.mp e).1
  have s := sb_w tab (f := vE 0) (ρ := [some (.ref w), some (.int m), none, none, none]) e rfl
  unfold drawS
  rw [seq_e, ifS_e, asB_e, Ev.gt s.1 (Ev.c _), asB1_ok, ofB_b, ifS1_ok]
  by_cases q : 0 < a
  · rw [if_pos (by simpa using q)]
    have s2 := sb_w tab (f := vE 0) (ρ := [some (.ref w), some (.int m), some (.int (a % m)), none, none]) e rfl
    refine ⟨(a % m).toNat, h.set w (.lst [.int (a / m), .int b, .int c]), ?_, ?_, ⟨⟨a / m, b, c, by simp [hw], Int.ediv_nonneg ha (by omega), hb, hb2, hc, by omega⟩⟩, Drew.set⟩
    · rw [seq_e, asgS_e, Ev.mod (Ev.int s.1) (j := m) rfl (by omega), asg1_ok, nmG_e, asg2_ok, thn_nx]
      simp only [List.set]
      rw [seq_e, asgS_e, Ev.div s2.1 (j := m) rfl (by omega) (by omega), asg1_ok, subG_e]
      simp only [vE_z, subG1_ok, cE_e, subG2_ok]
      rw [put_w0 e, subG3_ok, asg2_ok, thn_nx, retS_e]
      simp only [vE_z, vE_s, retS1_ok, thn_rt, fin_rt, List.set]
      rw [Int.toNat_of_nonneg (Int.emod_nonneg _ (by omega))]
    · have := Int.emod_lt_of_pos a (show (0 : Int) < m by omega)
      have := Int.emod_nonneg a (show (m : Int) ≠ 0 by omega)
      omega
  · rw [if_neg (by simpa using q), nxS_e, thn_nx]
    have e1 : (h.set w (.lst [.int a, .int b, .int (c + 1)]))[w]? = some (.lst [.int a, .int b, .int (c + 1)]) := by simp [hw]
    have B3 := dM3_b (dM2 (dM1 b (c + 1)) b (c + 1))
    have nn : (0 : Int) ≤ dM3 (dM2 (dM1 b (c + 1)) b (c + 1)) / 50021 % m := Int.emod_nonneg _ (by omega)
    refine ⟨(dM3 (dM2 (dM1 b (c + 1)) b (c + 1)) / 50021 % m).toNat, h.set w (.lst [.int a, .int b, .int (c + 1)]), ?_, ?_, ⟨⟨a, b, c + 1, e1, ha, hb, hb2, by omega, by omega⟩⟩, Drew.set⟩
    · rw [seq_e, asgS_e, Ev.add s.2.2 (Ev.c _), asg1_ok, subG_e]
      simp only [vE_z, subG1_ok, cE_e, subG2_ok]
      rw [put_w2 e, subG3_ok, asg2_ok, thn_nx]
      have s3 := sb_w tab (f := vE 0) (ρ := [some (.ref w), some (.int m), none, none, none]) e1 rfl
      rw [seq_e, asgS_e, s3.2.2, asg1_ok, nmG_e, asg2_ok, thn_nx]
      simp only [List.set]
      rw [seq_e, asgS_e, dE1_e tab e1 rfl rfl (by omega) (by omega), asg1_ok, nmG_e, asg2_ok, thn_nx]
      simp only [List.set]
      rw [seq_e, asgS_e, dE2_e tab e1 rfl rfl rfl (dM1_b _ _), asg1_ok, nmG_e, asg2_ok, thn_nx]
      simp only [List.set]
      rw [seq_e, asgS_e, dE3_e rfl (dM2_b _ _ _), asg1_ok, nmG_e, asg2_ok, thn_nx]
      simp only [List.set]
      rw [retS_e, Ev.mod (Ev.int (Ev.div (i := dM3 (dM2 (dM1 b (c + 1)) b (c + 1))) rfl (Ev.c _) (by decide) (by decide))) (j := m) rfl (by omega), retS1_ok, fin_rt, Int.toNat_of_nonneg nn]
    · have := Int.emod_lt_of_pos (dM3 (dM2 (dM1 b (c + 1)) b (c + 1)) / 50021) (show (0 : Int) < m by omega)
      omega
def Well.mono {h : IH} {w k l : Nat} (W : Well h w k) (e : k ≤ l) : Well h w l := { W with hk := by have := W.hk; omega }
theorem pop_drew {F : List U → IH → R U} {us : List U} {h h' : IH} {u : U} {w k : Nat} (e : F us h = .ok u h') (d : Drew h h' w) (W : Well h' w k) (l : low h.length u = true) : popF F us h = .ok u h' := by
  rw [pop_kpt e ⟨Nat.le_of_eq d.len.symm, fun i hi => ?_⟩ l, ← d.len, List.take_length]
  by_cases q : i = w
  · subst q
    exact .inr ⟨_, W.at_, rfl⟩
  · exact .inl (d.oth i q)
theorem low_d (n : Nat) (d : D) : low n d.u = true := by cases d <;> rfl
@[simp] theorem nth_5 (h : IH) (a b c d e f : U) (xs : List U) : nthU (a :: b :: c :: d :: e :: f :: xs) 5 h = .ok f h := nth_n h _ 5
@[simp] theorem nth_6 (h : IH) (a b c d e f g : U) (xs : List U) : nthU (a :: b :: c :: d :: e :: f :: g :: xs) 6 h = .ok g h := nth_n h _ 6
@[simp] theorem nth_7 (h : IH) (a b c d e f g x : U) (xs : List U) : nthU (a :: b :: c :: d :: e :: f :: g :: x :: xs) 7 h = .ok x h := nth_n h _ 7
end PD

set_option Elab.async false
set_option linter.all false
set_option maxRecDepth 100000
set_option maxHeartbeats 4000000
namespace PD.K76
open PySem PySem.Spec PyProof.Rows L2
variable (G : Glb)
/-! ### drawn deeds -/
theorem draw_e {h : IH} {w k : Nat} (W : Well h w k) (hk : k < 999999) {m : Nat} (hm : 0 < m) (hm2 : m < 1000000) :
    ∃ (r : Nat) (h' : IH), f_u_law_draw G [.ref w, .int m] h = .ok (.int r) h' ∧ r < m ∧ Nonempty (Well h' w (k + 1)) ∧ Drew h h' w := by
  obtain ⟨r, h', e, q⟩ := draw_s G.tab W hk hm hm2
  refine ⟨r, h', ?_, q⟩
  show fnR 5 2 (c_u_law_draw G) _ h = _
  rw [fnR_e]
  exact e
theorem deed_e {h : IH} {w k : Nat} (W : Well h w k) (hk : k < 999000) {n : Nat} (hn : 0 < n) (hn2 : n < 1000000) :
    ∃ (d : D) (h' : IH), f_u_law_deed G [.ref w, .int n] h = .ok d.u h' ∧ d.ok n ∧ Nonempty (Well h' w (k + 8)) ∧ Drew h h' w := by
  suffices z : ∃ (d : D) (h' : IH), fnR 8 2 (c_u_law_deed G) [.ref w, .int n] h = .ok d.u h' ∧ d.ok n ∧ Nonempty (Well h' w (k + 8)) ∧ Drew h h' w by
    obtain ⟨d, h', e, o, ⟨W'⟩, dr⟩ := z
    exact ⟨d, h', pop_drew e dr W' (low_d _ d), o, ⟨W'⟩, dr⟩
  obtain ⟨r, h1, e1, l1, ⟨W1⟩, d1⟩ := draw_e G W (by omega) hn hn2
  obtain ⟨s, h2, e2, l2, ⟨W2⟩, d2⟩ := draw_e G W1 (by omega) hn hn2
  obtain ⟨c, h3, e3, l3, ⟨W3⟩, d3⟩ := draw_e G W2 (by omega) (m := 2) (by omega) (by omega)
  obtain ⟨i, h4, e4, l4, ⟨W4⟩, d4, ne⟩ : ∃ (i : Nat) (h4 : IH), f_u_law_draw G [.ref w, .int (if c = 0 then 2 else 4)] h3 = .ok (.int i) h4 ∧ i < 4 ∧ Nonempty (Well h4 w (k + 4)) ∧ Drew h3 h4 w ∧ ∀ g, nthU [.int 2, .int 4] (c : Int) g = .ok (.int (if c = 0 then 2 else 4)) g := by
    by_cases q : c = 0
    · subst q
      obtain ⟨i, h4, e4, l4, W4, d4⟩ := draw_e G W3 (by omega) (m := 2) (by omega) (by omega)
      exact ⟨i, h4, e4, by omega, W4, d4, fun g => by simp⟩
    · have q : c = 1 := by omega
      subst q
      obtain ⟨i, h4, e4, l4, W4, d4⟩ := draw_e G W3 (by omega) (m := 4) (by omega) (by omega)
      exact ⟨i, h4, e4, by omega, W4, d4, fun g => by simp⟩
  obtain ⟨y, h5, e5, l5, ⟨W5⟩, d5⟩ := draw_e G W4 (by omega) (m := 22) (by omega) (by omega)
  obtain ⟨v, h6, e6, l6, ⟨W6⟩, d6⟩ := draw_e G W5 (by omega) (m := 4) (by omega) (by omega)
  have D6 := ((((d1.trans d2).trans d3).trans d4).trans d5).trans d6
  have e3 : f_u_law_draw G [.ref w, .int 2] h2 = .ok (.int c) h3 := e3
  have e5 : f_u_law_draw G [.ref w, .int 22] h4 = .ok (.int y) h5 := e5
  have e6 : f_u_law_draw G [.ref w, .int 4] h5 = .ok (.int v) h6 := e6
  simp only [fnR_e]
  have cs : y < 5 ∨ (5 ≤ y ∧ y < 9) ∨ y = 9 ∨ y = 10 ∨ y = 11 ∨ (12 ≤ y ∧ y < 14) ∨ y = 14 ∨ y = 15 ∨ y = 16 ∨ y = 17 ∨ y = 18 ∨ y = 19 ∨ y = 20 ∨ y = 21 := by omega
  rcases cs with q | q | q | q | q | q | q | q | q | q | q | q | q | q
  · obtain ⟨a, h7, e7, l7, ⟨W7⟩, d7⟩ := draw_e G W6 (by omega) (m := 4) (by omega) (by omega)
    obtain ⟨b, h8, e8, l8, ⟨W8⟩, d8⟩ := draw_e G W7 (by omega) (m := 3) (by omega) (by omega)
    have e7 : f_u_law_draw G [.ref w, .int 4] h6 = .ok (.int a) h7 := e7
    have e8 : f_u_law_draw G [.ref w, .int 3] h7 = .ok (.int b) h8 := e8
    refine ⟨.new r a b, h8, ?_, ⟨l1, l7, l8⟩, ⟨W8.mono (by omega)⟩, (D6.trans d7).trans d8⟩
    simp -implicitDefEqProofs [c_u_law_deed, e1, e2, e3, e4, e5, e6, ne, e7, e8, show (y : Int) < 5 by omega, D.u, D.us]
  · refine ⟨.link r i s, h6, ?_, ⟨l1, l4, l2⟩, ⟨W6.mono (by omega)⟩, D6⟩
    simp -implicitDefEqProofs [c_u_law_deed, e1, e2, e3, e4, e5, e6, ne, show ¬ (y : Int) < 5 by omega, show (y : Int) < 9 by omega, D.u, D.us]
  · subst q
    refine ⟨.follow r s i, h6, ?_, ⟨l1, l2, l4⟩, ⟨W6.mono (by omega)⟩, D6⟩
    simp -implicitDefEqProofs [c_u_law_deed, e1, e2, e3, e4, e5, e6, ne, D.u, D.us]
  · subst q
    refine ⟨.copy r s, h6, ?_, ⟨l1, l2⟩, ⟨W6.mono (by omega)⟩, D6⟩
    simp -implicitDefEqProofs [c_u_law_deed, e1, e2, e3, e4, e5, e6, ne, D.u, D.us]
  · subst q
    refine ⟨.clear r, h6, ?_, l1, ⟨W6.mono (by omega)⟩, D6⟩
    simp -implicitDefEqProofs [c_u_law_deed, e1, e2, e3, e4, e5, e6, ne, D.u, D.us]
  · obtain ⟨a, h7, e7, l7, ⟨W7⟩, d7⟩ := draw_e G W6 (by omega) (m := 9) (by omega) (by omega)
    obtain ⟨b, h8, e8, l8, ⟨W8⟩, d8⟩ := draw_e G W7 (by omega) (m := 3) (by omega) (by omega)
    have e7 : f_u_law_draw G [.ref w, .int 9] h6 = .ok (.int a) h7 := e7
    have e8 : f_u_law_draw G [.ref w, .int 3] h7 = .ok (.int b) h8 := e8
    have b3 : b = 0 ∨ b = 1 ∨ b = 2 := by omega
    rcases b3 with b3 | b3 | b3
    · subst b3
      refine ⟨.write r i ((a : Int) - 4), h8, ?_, ⟨l1, l4, by omega, by omega⟩, ⟨W8.mono (by omega)⟩, (D6.trans d7).trans d8⟩
      simp -implicitDefEqProofs [c_u_law_deed, e1, e2, e3, e4, e5, e6, ne, e7, e8, show ¬ (y : Int) < 5 by omega, show ¬ (y : Int) < 9 by omega, show ¬ (y : Int) < 12 by omega, show (y : Int) < 14 by omega, D.u, D.us]
    · subst b3
      refine ⟨.write r i 1000, h8, ?_, ⟨l1, l4, by omega, by omega⟩, ⟨W8.mono (by omega)⟩, (D6.trans d7).trans d8⟩
      simp -implicitDefEqProofs [c_u_law_deed, e1, e2, e3, e4, e5, e6, ne, e7, e8, show ¬ (y : Int) < 5 by omega, show ¬ (y : Int) < 9 by omega, show ¬ (y : Int) < 12 by omega, show (y : Int) < 14 by omega, D.u, D.us]
    · subst b3
      refine ⟨.write r i (-1000), h8, ?_, ⟨l1, l4, by omega, by omega⟩, ⟨W8.mono (by omega)⟩, (D6.trans d7).trans d8⟩
      simp -implicitDefEqProofs [c_u_law_deed, e1, e2, e3, e4, e5, e6, ne, e7, e8, show ¬ (y : Int) < 5 by omega, show ¬ (y : Int) < 9 by omega, show ¬ (y : Int) < 12 by omega, show (y : Int) < 14 by omega, D.u, D.us]
  · subst q
    refine ⟨.read r i, h6, ?_, ⟨l1, l4⟩, ⟨W6.mono (by omega)⟩, D6⟩
    simp -implicitDefEqProofs [c_u_law_deed, e1, e2, e3, e4, e5, e6, ne, D.u, D.us, addU, itO]
  · subst q
    refine ⟨.same r s, h6, ?_, ⟨l1, l2⟩, ⟨W6.mono (by omega)⟩, D6⟩
    simp -implicitDefEqProofs [c_u_law_deed, e1, e2, e3, e4, e5, e6, ne, D.u, D.us, addU, itO]
  · subst q
    refine ⟨.shape r, h6, ?_, l1, ⟨W6.mono (by omega)⟩, D6⟩
    simp -implicitDefEqProofs [c_u_law_deed, e1, e2, e3, e4, e5, e6, ne, D.u, D.us, addU, itO]
  · subst q
    refine ⟨.weak v r, h6, ?_, ⟨l6, l1⟩, ⟨W6.mono (by omega)⟩, D6⟩
    simp -implicitDefEqProofs [c_u_law_deed, e1, e2, e3, e4, e5, e6, ne, D.u, D.us, addU, itO]
  · subst q
    refine ⟨.look r v, h6, ?_, ⟨l1, l6⟩, ⟨W6.mono (by omega)⟩, D6⟩
    simp -implicitDefEqProofs [c_u_law_deed, e1, e2, e3, e4, e5, e6, ne, D.u, D.us, addU, itO]
  · subst q
    refine ⟨.wish r, h6, ?_, l1, ⟨W6.mono (by omega)⟩, D6⟩
    simp -implicitDefEqProofs [c_u_law_deed, e1, e2, e3, e4, e5, e6, ne, D.u, D.us, addU, itO]
  · subst q
    refine ⟨.next r, h6, ?_, l1, ⟨W6.mono (by omega)⟩, D6⟩
    simp -implicitDefEqProofs [c_u_law_deed, e1, e2, e3, e4, e5, e6, ne, D.u, D.us, addU, itO]
  · subst q
    refine ⟨.gather, h6, ?_, trivial, ⟨W6.mono (by omega)⟩, D6⟩
    simp -implicitDefEqProofs [c_u_law_deed, e1, e2, e3, e4, e5, e6, ne, D.u, D.us, addU, itO]
end PD.K76

set_option Elab.async false
set_option linter.all false
set_option maxRecDepth 100000
set_option maxHeartbeats 4000000
namespace PD
open PySem PySem.Spec PyProof.Rows L2
/-! ### a well is laid -/
variable (tab : Addr → Option (List (Str × U)))
noncomputable def wE0 : EM := ifE (asB (bin ltU (vE 1) (callA (on1 lenU) (consA (vE 0) (nilA))))) (callA (on1 intU) (consA (bin (sbU tab) (vE 0) (vE 1)) (nilA))) (bin (addU false) (bin (mulU false) (cE (.int 71)) (vE 1)) (cE (.int 37)))
noncomputable def wE1 : EM := bin modU (callA (on1 intU) (consA (bin (addU false) (bin (mulU false) (vE 3) (cE (.int 5323))) (bin modU (callA (on1 intU) (consA (vE 4) (nilA))) (bin (addU false) (bin powU (cE (.int 10)) (cE (.int 19))) (cE (.int 51))))) (nilA))) (bin (addU false) (bin powU (cE (.int 10)) (cE (.int 25))) (cE (.int 13)))
noncomputable def wE2 : EM := bin modU (callA (on1 intU) (consA (bin (addU false) (bin (addU false) (bin (addU false) (bin (mulU false) (callA (on1 absU) (consA (vE 2) (nilA))) (cE (.int 7129))) (bin (mulU false) (vE 3) (cE (.int 41)))) (bin (mulU false) (cE (.int 3)) (callA (on1 intU) (consA (bin ltU (vE 2) (cE (.int 0))) (nilA))))) (bin (mulU false) (cE (.int 61)) (vE 1))) (nilA))) (bin (addU false) (bin powU (cE (.int 10)) (cE (.int 28))) (cE (.int 331)))
noncomputable def wE3 : EM := callA (on2 max2U) (consA (cE (.int 0)) (consA (bin subU (callA (on1 absU) (consA (vE 2) (nilA))) (bin powU (cE (.int 10)) (cE (.int 18)))) (nilA)))
noncomputable def wellS : SM := seq (asgS (wE0 tab) (nmG 2)) (seq (asgS (bin (addU false) (cE (.int 29)) (callA (on1 lenU) (consA (vE 0) (nilA)))) (nmG 3)) (seq (forS (walkA (vE 0)) (nmG 4) (asgS wE1 (nmG 3))) (seq (asgS wE2 (nmG 5)) (retS (lstE true (consA wE3 (consA (vE 5) (consA (cE (.int 0)) (nilA)))))))))
theorem wloopW {s : Src} {h : IH} (a : s.At h) : ∀ (ns : List Int) (ρ : Env) (m : Int), ρ.length = 6 → ρ[3]? = some (some (.int m)) → ∃ (ρ' : Env) (m' : Int), forGo s (nmG 4) (asgS wE1 (nmG 3)) (ns.map U.int) ρ h = .fl (.nx ρ') h ∧ ρ'.length = 6 ∧ ρ'[3]? = some (some (.int m')) ∧ ρ'[1]? = ρ[1]? ∧ ρ'[2]? = ρ[2]?
  | [], ρ, m, hl, h3 => ⟨ρ, m, by rw [List.map_nil, forGo_nil a], hl, h3, rfl, rfl⟩
  | x :: ns, ρ, m, hl, h3 => by
    have v4 := vE_g (u := .int x) h (ρ := ρ.set 4 (some (.int x))) (i := 4) (by simp [hl])
    have v3 := vE_g (u := .int m) h (ρ := ρ.set 4 (some (.int x))) (i := 3) (by rw [List.getElem?_set_ne (by decide)]; exact h3)
    have e : wE1 (ρ.set 4 (some (.int x))) h = _ := Ev.mod (Ev.int (Ev.add (Ev.mul v3 (Ev.c _) (mulC_r (by decide))) (Ev.mod (Ev.int v4) (Ev.add (Ev.pow (n := 19) (by decide) rfl) (Ev.c _)) (by decide)))) (Ev.add (Ev.pow (n := 25) (by decide) rfl) (Ev.c _)) (by decide)
    obtain ⟨ρ', m', e2, q1, q2, q3, q4⟩ := wloopW a ns ((ρ.set 4 (some (.int x))).set 3 (some (.int ((m * 5323 + x % (10 ^ 19 + 51)) % (10 ^ 25 + 13))))) _ (by simp [hl]) (by rw [List.getElem?_set_self (by simp [hl])])
    refine ⟨ρ', m', ?_, q1, q2, ?_, ?_⟩
    · rw [List.map_cons, forGo_cons a, nmG_e, gthen_ok, asgS_e, e, asg1_ok, nmG_e, asg2_ok, turn_nx]
      exact e2
    · rw [q3, List.getElem?_set_ne (by decide), List.getElem?_set_ne (by decide)]
    · rw [q4, List.getElem?_set_ne (by decide), List.getElem?_set_ne (by decide)]
theorem well_s (ns : List Int) (k : Nat) (hk : k < 1000) (h : IH) : ∃ o : O, (wellS tab [some (.scr (ns.map U.int)), some (.int k), none, none, none, none] h).fin = .ok (.ref h.length) (h ++ [o]) ∧ Nonempty (Well (h ++ [o]) h.length 0) := by
  obtain ⟨cell, e0⟩ : ∃ cell : Int, wE0 tab [some (.scr (ns.map U.int)), some (.int k), none, none, none, none] h = .ok (.int cell) h := by
    unfold wE0
    rw [ifE_e, asB_e, Ev.lt (i := k) (j := ns.length) rfl (by rw [callA_e, consA_e, vE_z, consA1_ok, nilA_e, consA2_ok, callA1_ok, on1_e, len_s, List.length_map]), asB1_ok, ofB_b, ifE1_ok]
    by_cases q : k < ns.length
    · rw [if_pos (by simpa using q)]
      refine ⟨ns[k], Ev.int ?_⟩
      rw [bin_e, vE_z, bin1_ok, vE_s, vE_z, bin2_ok, sb_s]
      exact nth_g _ _ _ _ (by simp [q])
    · rw [if_neg (by simpa using q)]
      exact ⟨_, Ev.add (Ev.mul (Ev.c _) (j := k) rfl (mulC_l (by decide))) (Ev.c _)⟩
  unfold wellS
  obtain ⟨ρ', m, e1, q1, q2, q3, q4⟩ := wloopW (s := { items := ns.map U.int }) (h := h) At_nil ns [some (.scr (ns.map U.int)), some (.int k), some (.int cell), some (.int (29 + ns.length)), none, none] _ rfl rfl
  have v1 := vE_g (u := .int k) h (ρ := ρ') (i := 1) q3
  have v2 := vE_g (u := .int cell) h (ρ := ρ') (i := 2) q4
  have v3 := vE_g (u := .int m) h (ρ := ρ') (i := 3) q2
  have e2 : wE2 ρ' h = _ := Ev.mod (Ev.int (Ev.add (Ev.add (Ev.add (Ev.mul (Ev.abs v2) (Ev.c _) (mulC_r (by decide))) (Ev.mul v3 (Ev.c _) (mulC_r (by decide)))) (Ev.mul (Ev.c _) (Ev.intB (Ev.lt v2 (Ev.c _))) (mulC_l (by decide)))) (Ev.mul (Ev.c _) v1 (mulC_l (by decide))))) (Ev.add (Ev.pow (n := 28) (by decide) rfl) (Ev.c _)) (by decide)
  generalize eb : (((if cell < 0 then -cell else cell) * 7129 + m * 41 + 3 * (if decide (cell < 0) = true then 1 else 0) + 61 * k) % (10 ^ 28 + 331) : Int) = b at e2
  have hb : 0 ≤ b ∧ b < 10 ^ 28 + 331 := by rw [← eb]; exact ⟨Int.emod_nonneg _ (by decide), Int.emod_lt_of_pos _ (by decide)⟩
  obtain ⟨a, ha, e3⟩ : ∃ a : Int, 0 ≤ a ∧ wE3 (ρ'.set 5 (some (.int b))) h = .ok (.int a) h := by
    have v2' := vE_g (u := .int cell) h (ρ := ρ'.set 5 (some (.int b))) (i := 2) (by rw [List.getElem?_set_ne (by decide)]; exact q4)
    have z := Ev.sub (Ev.abs v2') (Ev.pow (n := 18) (j := 18) (by decide) rfl)
    generalize ez : (if cell < 0 then -cell else cell) - (10 : Int) ^ 18 = z0 at z
    refine ⟨if z0 > 0 then z0 else 0, by split <;> omega, ?_⟩
    unfold wE3
    rw [callA_e, consA_e, cE_e, consA1_ok, consA_e, z, consA1_ok, nilA_e, consA2_ok, consA2_ok, callA1_ok, on2_e]
    rfl
  refine ⟨.lst [.int a, .int b, .int 0], ?_, ⟨⟨a, b, 0, by simp, ha, hb.1, by omega, by decide, by decide⟩⟩⟩
  rw [seq_e, asgS_e, e0, asg1_ok, nmG_e, asg2_ok, thn_nx]
  simp only [List.set]
  rw [seq_e, asgS_e, Ev.add (i := 29) (j := ns.length) rfl (by rw [callA_e, consA_e, vE_z, consA1_ok, nilA_e, consA2_ok, callA1_ok, on1_e, len_s, List.length_map]), asg1_ok, nmG_e, asg2_ok, thn_nx]
  simp only [List.set]
  rw [seq_e, forS_e, walkA_e, vE_z, walk1_ok, srcW_s, for1_ok, e1, thn_nx, seq_e, asgS_e, e2, asg1_ok, nmG_e, asg2_ok, thn_nx, retS_e, lstE_e, consA_e, e3, consA1_ok, consA_e]
  rw [vE_g (u := .int b) h (ρ := ρ'.set 5 (some (.int b))) (i := 5) (by simp [q1]), consA1_ok, consA_e, cE_e, consA1_ok, nilA_e, consA2_ok, consA2_ok, consA2_ok, lstE1_ok, newL_T (by simp), retS1_ok, fin_rt]
end PD

set_option Elab.async false
set_option linter.all false
set_option maxRecDepth 100000
set_option maxHeartbeats 4000000
namespace PD
open PySem PySem.Spec PyProof.Rows L2
/-! ### pictures and answers may be shown -/
def oD : Option Nat → PyData
  | none => .none
  | some x => .int x
theorem pDs_map {α : Type} {f : α → U} {g : α → PyData} : ∀ {l : List α}, (∀ x ∈ l, pD (f x) = some (g x)) → pDs (l.map f) = some (l.map g)
  | [], _ => rfl
  | x :: l, h => by
    show (match pD (f x), pDs (l.map f) with | some d, some ds => some (d :: ds) | _, _ => none) = _
    rw [h x (by simp), pDs_map fun y hy => h y (by simp [hy])]
    rfl
theorem pD_tup {xs : List U} {ds : List PyData} (h : pDs xs = some ds) : pD (.tup xs) = some (.tuple ds) := by
  show (pDs xs).map PyData.tuple = _
  rw [h]; rfl
theorem pD_lst {xs : List U} {ds : List PyData} (h : pDs xs = some ds) : pD (.lst xs) = some (.list ds) := by
  show (pDs xs).map PyData.list = _
  rw [h]; rfl
/-- data that is fit: to be shown, of some depth, of so many cells -/
structure Fit (d : PyData) (k c : Nat) : Prop where
  nice : nice d = true
  depth : d.depth ≤ k
  cells : cells d ≤ c
structure Fits (ds : List PyData) (k c : Nat) : Prop where
  nice : nices ds = true
  depth : PyData.depthAll ds ≤ k
  cells : cellss ds ≤ c
theorem Fits.nil : Fits [] 0 1 := ⟨rfl, by decide, by decide⟩
theorem Fits.cons {d : PyData} {ds : List PyData} {k k2 c c2 : Nat} (a : Fit d k c) (b : Fits ds k2 c2) : Fits (d :: ds) (max k k2) (c + c2) := by
  refine ⟨?_, ?_, ?_⟩
  · show (PD.nice d && nices ds) = true
    rw [a.nice, b.nice]; rfl
  · show max d.depth (PyData.depthAll ds) ≤ _
    have := a.depth; have := b.depth; omega
  · show PD.cells d + cellss ds ≤ _
    have := a.cells; have := b.cells; omega
theorem Fits.map {α : Type} {g : α → PyData} {k c : Nat} : ∀ {l : List α}, (∀ x ∈ l, Fit (g x) k c) → Fits (l.map g) k (c * l.length + 1)
  | [], _ => ⟨rfl, Nat.zero_le _, by show 1 ≤ _; omega⟩
  | x :: l, h => by
    have a := (h x (by simp))
    have b := Fits.map (l := l) fun y hy => h y (by simp [hy])
    have z := Fits.cons a b
    refine ⟨z.nice, Nat.le_trans z.depth (by omega), Nat.le_trans z.cells ?_⟩
    rw [List.length_cons, Nat.mul_succ]
    omega
theorem Fits.tup {ds : List PyData} {k c : Nat} (a : Fits ds k c) : Fit (.tuple ds) (k + 1) c := ⟨a.nice, by show PyData.depthAll ds + 1 ≤ k + 1; have := a.depth; omega, a.cells⟩
theorem Fits.lst {ds : List PyData} {k c : Nat} (a : Fits ds k c) : Fit (.list ds) (k + 1) c := ⟨a.nice, by show PyData.depthAll ds + 1 ≤ k + 1; have := a.depth; omega, a.cells⟩
theorem Fit.mono {d : PyData} {k k2 c c2 : Nat} (a : Fit d k c) (h : k ≤ k2) (h2 : c ≤ c2) : Fit d k2 c2 := ⟨a.nice, Nat.le_trans a.depth h, Nat.le_trans a.cells h2⟩
theorem Fits.mono {d : List PyData} {k k2 c c2 : Nat} (a : Fits d k c) (h : k ≤ k2) (h2 : c ≤ c2) : Fits d k2 c2 := ⟨a.nice, Nat.le_trans a.depth h, Nat.le_trans a.cells h2⟩
theorem Fit.int {i : Int} (h : i.natAbs < 1073741824) : Fit (.int i) 0 1 := ⟨by simpa [PD.nice] using h, by simp [PyData.depth], by simp [PD.cells]⟩
theorem Fit.bl (b : Bool) : Fit (.bool b) 0 1 := ⟨rfl, by simp [PyData.depth], by simp [PD.cells]⟩
theorem Fit.non : Fit .none 0 1 := ⟨rfl, by decide, by decide⟩
theorem Fit.str {x : Str} (h : PD.nice (.str x) = true) : Fit (.str x) 0 1 := ⟨h, by simp [PyData.depth], by simp [PD.cells]⟩
theorem Fit.shaped {d : PyData} {k c : Nat} (a : Fit d k c) (h : k ≤ 64) : SeqAt.shaped d = true := by
  have := (nice_lay d a.nice).1
  unfold SeqAt.shaped
  rw [this]
  have := a.depth
  simp; omega
theorem Fit.repr {u : U} {d : PyData} {k c : Nat} {h : IH} (a : Fit d k c) (hd : tD h u = some d) (hk : k ≤ 64) (hc : c ≤ 20000) : reprU u h = .ok (.str d.shown) h ∧ PyData.strOk d.shown = true :=
  reprU_e hd a.nice (Nat.le_trans a.depth hk) (Nat.le_trans a.cells hc)
theorem oD_fit {o : Option Nat} (h : ∀ x, o = some x → x < 1000000) : Fit (oD o) 0 1 := by
  cases o with
  | none => exact Fit.non
  | some x => exact Fit.int (by have := h x rfl; omega)
theorem pD_o (o : Option Nat) : pD (oU o) = some (oD o) := by cases o <;> rfl
def picD (p : Pic) : PyData := .tuple [.tuple (p.root.map oD), .tuple (p.weak.map oD), .tuple (p.wish.map nD), .tuple (p.queue.map nD), .tuple (p.objs.map fun o => .tuple [.tuple (o.1.map oD), .tuple (o.2.1.map PyData.int), .bool o.2.2])]
theorem pD_pic (p : Pic) : pD p.u = some (picD p) := by
  have a : ∀ l : List (Option Nat), pD (.tup (l.map oU)) = some (.tuple (l.map oD)) := fun l => pD_tup (pDs_map fun x _ => pD_o x)
  have b : ∀ l : List Nat, pD (.tup (l.map nU)) = some (.tuple (l.map nD)) := fun l => pD_tup (pDs_map fun x _ => rfl)
  have c : ∀ l : List Int, pD (.tup (l.map U.int)) = some (.tuple (l.map PyData.int)) := fun l => pD_tup (pDs_map fun x _ => rfl)
  have d : pD (.tup (p.objs.map fun o => .tup [.tup (o.1.map oU), .tup (o.2.1.map U.int), .bl o.2.2])) = some (.tuple (p.objs.map fun o => .tuple [.tuple (o.1.map oD), .tuple (o.2.1.map PyData.int), .bool o.2.2])) :=
    pD_tup (pDs_map fun x _ => pD_tup (by simp only [pDs, a, c]; rfl))
  unfold Pic.u
  refine pD_tup ?_
  simp only [pDs, a, b, d]
theorem pic_fit {s : S} (w : s.WF) {n : Nat} (B : s.Bd n) (hn : n ≤ 1000) (hr : s.root.length ≤ 1000) (hwk : s.weak.length = 4) : Fit (picD s.pic) 4 20000 := by
  have B1 := B.len
  have B2 := B.que
  have ol : s.order.length ≤ n := Nat.le_trans (nodup_len order_nodup (order_lt w)) (by omega)
  have ix : ∀ x, s.order.idxOf x ≤ n := fun x => Nat.le_trans List.idxOf_le_length ol
  have io : ∀ o : Option Nat, Fit (oD (o.map (s.order.idxOf ·))) 0 1 := fun o => oD_fit fun x hx => by
    cases o with
    | none => cases hx
    | some y =>
      have hx : some (s.order.idxOf y) = some x := hx
      cases hx
      have := ix y
      omega
  have rowO : ∀ l : List (Option Nat), Fit (.tuple ((l.map (Option.map (s.order.idxOf ·))).map oD)) 1 (l.length + 1) := fun l => by
    rw [List.map_map]
    exact (Fits.map (c := 1) fun x _ => io x).tup.mono (by omega) (by omega)
  have rowN : ∀ l : List Nat, Fit (.tuple ((l.map (s.order.idxOf ·)).map nD)) 1 (l.length + 1) := fun l => by
    rw [List.map_map]
    exact (Fits.map (c := 1) (k := 0) fun x _ => Fit.int (i := (s.order.idxOf x : Nat)) (by have := ix x; omega)).tup.mono (by omega) (by omega)
  have ob : ∀ x ∈ s.order, Fit (.tuple [.tuple (((s.lk x).map (Option.map (s.order.idxOf ·))).map oD), .tuple ((s.nm x).map PyData.int), .bool (s.mk_ x)]) 2 9 := fun x _ => by
    have l1 := S.lk_len B x
    have l2 := S.nm_len B x
    have f1 := rowO (s.lk x)
    have f2 : Fit (.tuple ((s.nm x).map PyData.int)) 1 ((s.nm x).length + 1) := (Fits.map (c := 1) (k := 0) fun v hv => Fit.int (by have := l2.2 v hv; omega)).tup.mono (by omega) (by omega)
    exact (Fits.cons f1 (Fits.cons f2 (Fits.cons (Fit.bl _) Fits.nil))).tup.mono (by omega) (by omega)
  have obs : Fit (.tuple (s.order.map fun x => .tuple [.tuple (((s.lk x).map (Option.map (s.order.idxOf ·))).map oD), .tuple ((s.nm x).map PyData.int), .bool (s.mk_ x)])) 3 (9 * n + 1) :=
    (Fits.map ob).tup.mono (by omega) (by have := Nat.mul_le_mul_left 9 ol; omega)
  have e : picD s.pic = .tuple [.tuple ((s.root.map (Option.map (s.order.idxOf ·))).map oD), .tuple ((s.weak.map (Option.map (s.order.idxOf ·))).map oD), .tuple ((s.wish.map (s.order.idxOf ·)).map nD), .tuple ((s.queue.map (s.order.idxOf ·)).map nD),
      .tuple (s.order.map fun x => .tuple [.tuple (((s.lk x).map (Option.map (s.order.idxOf ·))).map oD), .tuple ((s.nm x).map PyData.int), .bool (s.mk_ x)])] := by
    simp only [picD, S.pic, List.map_map, Function.comp_def]
  rw [e]
  exact (Fits.cons (rowO _) (Fits.cons (rowO _) (Fits.cons (rowN _) (Fits.cons (rowN _) (Fits.cons obs Fits.nil))))).tup.mono (by omega) (by omega)
theorem nw_no : nice (.str "no") = true := by decide +kernel
def An.d : An → PyData
  | .no => .str "no"
  | .non => .none
  | .int i => .int i
  | .bl b => .bool b
  | .two a b => .tuple [.int a, .int b]
theorem pD_an (a : An) : pD a.u = some a.d := by cases a <;> rfl
theorem an_fit {s : S} {n : Nat} (B : s.Bd n) (hn : n ≤ 1000) (d : D) : Fit (s.an d).d 1 3 := by
  have B2 := B.que
  have no : Fit (An.no).d 1 3 := (Fit.str nw_no).mono (by omega) (by omega)
  have non : Fit (An.non).d 1 3 := Fit.non.mono (by omega) (by omega)
  cases d with
  | link r i t => unfold S.an S.do; dsimp only; split <;> (try split) <;> assumption
  | follow r t i => unfold S.an S.do; dsimp only; split <;> (try split) <;> assumption
  | write r i v => unfold S.an S.do; dsimp only; split <;> (try split) <;> assumption
  | read r i =>
    unfold S.an S.do
    dsimp only
    split
    · assumption
    · split
      · rename_i x hx _ v hv
        have := (S.nm_len B x).2 v (List.mem_of_getElem? hv)
        exact (Fit.int (by omega)).mono (by omega) (by omega)
      · assumption
  | same r t => exact (Fit.bl _).mono (by omega) (by omega)
  | shape r =>
    unfold S.an S.do
    dsimp only
    split
    · assumption
    · rename_i x hx
      have l1 := S.lk_len B x
      have l2 := (S.nm_len B x).1
      exact (Fits.cons (Fit.int (by omega)) (Fits.cons (Fit.int (by omega)) Fits.nil)).tup.mono (by omega) (by omega)
  | wish r => unfold S.an S.do; dsimp only; split <;> (try split) <;> assumption
  | gather =>
    have := filt_two (fun x => s.gre.contains x) s.wish
    exact (Fit.int (i := ((s.wish.filter fun x => !s.gre.contains x).length : Nat)) (by omega)).mono (by omega) (by omega)
  | _ => exact non
theorem run_append (s : S) (ds es : List D) : s.run (ds ++ es) = (((s.run ds).1.run es).1, (s.run ds).2 ++ ((s.run ds).1.run es).2) := by
  induction ds generalizing s with
  | nil => rfl
  | cons d ds ih => simp only [List.cons_append, S.run, ih]
theorem cut_last2 {α : Type} (A : List α) (x y : α) : cut (A ++ [x, y]) (some (-2)) none = [x, y] := by
  unfold cut HT.sIx
  dsimp only
  rw [if_pos (by decide), List.length_append]
  simp only [List.length_cons, List.length_nil]
  rw [show ((-2 : Int) + ((A.length + (0 + 1 + 1) : Nat) : Int)).toNat = A.length by omega, List.drop_left]
  rw [show A.length + (0 + 1 + 1) - A.length = 2 by omega]
  rfl
end PD

set_option Elab.async false
set_option linter.all false
set_option maxRecDepth 100000
set_option maxHeartbeats 4000000
namespace PD.K76
open PySem PySem.Spec PyProof.Rows L2
variable (G : Glb)
theorem well_e (ns : List Int) (k : Nat) (hk : k < 1000) (h : IH) : ∃ o : O, f_u_law_well G [.scr (ns.map U.int), .int k] h = .ok (.ref h.length) (h ++ [o]) ∧ Nonempty (Well (h ++ [o]) h.length 0) := by
  obtain ⟨o, e, W⟩ := well_s G.tab ns k hk h
  refine ⟨o, ?_, W⟩
  show fnR 6 2 (c_u_law_well G) _ h = _
  rw [fnR_e]
  exact e
theorem pair_e {h : IH} {w k : Nat} (W : Well h w k) (hk : k < 998000) :
    ∃ (d e : D) (h' : IH), f_u_law_pair G [.ref w] h = .ok (.tup [d.u, e.u]) h' ∧ d.ok 6 ∧ e.ok 6 ∧ Nonempty (Well h' w (k + 17)) ∧ Drew h h' w := by
  suffices z : ∃ (d e : D) (h' : IH), fnR 2 1 (c_u_law_pair G) [.ref w] h = .ok (.tup [d.u, e.u]) h' ∧ d.ok 6 ∧ e.ok 6 ∧ Nonempty (Well h' w (k + 17)) ∧ Drew h h' w by
    obtain ⟨d, e, h', q, o1, o2, ⟨W'⟩, dr⟩ := z
    refine ⟨d, e, h', pop_drew q dr W' ?_, o1, o2, ⟨W'⟩, dr⟩
    show lows _ [_, _] = true
    simp only [lows, low_d, Bool.and_self]
  obtain ⟨r, h1, e1, l1, ⟨W1⟩, d1⟩ := draw_e G W (by omega) (m := 3) (by omega) (by omega)
  have e1 : f_u_law_draw G [.ref w, .int 3] h = .ok (.int r) h1 := e1
  obtain ⟨n, ne, hn, hn6⟩ : ∃ n : Nat, (∀ g, nthU [.int 2, .int 3, .int 6] (r : Int) g = .ok (.int n) g) ∧ 0 < n ∧ n ≤ 6 := by
    have q : r = 0 ∨ r = 1 ∨ r = 2 := by omega
    rcases q with rfl | rfl | rfl
    · exact ⟨2, fun g => by simp, by omega, by omega⟩
    · exact ⟨3, fun g => by simp, by omega, by omega⟩
    · exact ⟨6, fun g => by simp, by omega, by omega⟩
  obtain ⟨d, h2, e2, o2, ⟨W2⟩, d2⟩ := deed_e G W1 (by omega) hn (by omega)
  obtain ⟨e, h3, e3, o3, ⟨W3⟩, d3⟩ := deed_e G W2 (by omega) hn (by omega)
  refine ⟨d, e, h3, ?_, o2.mono hn6, o3.mono hn6, ⟨W3.mono (by omega)⟩, (d1.trans d2).trans d3⟩
  rw [fnR_e]
  simp -implicitDefEqProofs [c_u_law_pair, e1, ne, e2, e3]
theorem deeds_loop {ys : List U} {w n : Nat} (hn : 0 < n) (hn2 : n < 1000000) : ∀ (m : Nat) (zs : List U) (acc : List D) (h : IH) (k : Nat) (ρ : Env), zs.length = m → Well h w k → k + 8 * m < 990000 → acc.length + m ≤ 1000 → ρ[0]? = some (some (.ref w)) → 6 < ρ.length → (∀ d ∈ acc, d.ok n) →
    ∃ (ds : List D) (h' : IH), compGo { items := ys } (nmG 6) (yesB) (callF 2 (f_u_law_deed G) (consA (vE 0) (consA (cE (.int n)) (nilA)))) ρ zs h (acc.map D.u) = .ok (ds.map D.u) h' ∧ ds.length = acc.length + m ∧ (∀ d ∈ ds, d.ok n) ∧ Nonempty (Well h' w (k + 8 * m)) ∧ Drew h h' w
  | 0, zs, acc, h, k, ρ, hz, W, _, _, _, _, ha => by
    have : zs = [] := List.length_eq_zero_iff.mp hz
    subst this
    exact ⟨acc, h, by rw [compGo_nil At_nil], by simp, ha, ⟨W⟩, Drew.refl _ _⟩
  | m + 1, [], acc, h, k, ρ, hz, W, _, _, _, _, ha => by cases hz
  | m + 1, z :: zs, acc, h, k, ρ, hz, W, hk, hl, h0, h6, ha => by
    obtain ⟨d, h1, e1, o1, ⟨W1⟩, d1⟩ := deed_e G W (by omega) hn hn2
    obtain ⟨ds, h2, e2, l2, o2, ⟨W2⟩, d2⟩ := deeds_loop hn hn2 m zs (acc ++ [d]) h1 (k + 8) ρ (by simpa using hz) W1 (by omega) (by rw [List.length_append]; simp only [List.length_cons, List.length_nil]; omega) h0 h6 (fun x hx => by
      rcases List.mem_append.mp hx with hx | hx
      · exact ha x hx
      · simp at hx; subst hx; exact o1)
    refine ⟨ds, h2, ?_, by rw [l2, List.length_append]; simp only [List.length_cons, List.length_nil]; omega, o2, ⟨W2.mono (by omega)⟩, d1.trans d2⟩
    have v0 := vE_g (u := .ref w) h (ρ := ρ.set 6 (some z)) (i := 0) (by rw [List.getElem?_set_ne (by decide)]; exact h0)
    rw [compGo_cons At_nil, nmG_e, cmp1_ok, yesB_e, cmp2_ok, if_pos rfl, callF_e, consA_e, v0, consA1_ok, consA_e, cE_e, consA1_ok, nilA_e, consA2_ok, consA2_ok, callF1_ok, if_pos (by rfl), e1, cmp3_ok, if_pos (by rw [sizeL, List.length_map]; omega)]
    rw [List.map_append] at e2
    exact e2
theorem clash_is (d e : D) : clashB d e = d.clash e := by
  have a : ∀ d : D, (d.wd == "gather") = d.isG := by intro d; cases d <;> simp [D.wd, D.isG]
  have b : ∀ d : D, lsB d = d.ls := by intro d; cases d <;> simp [D.wd, D.ls, lsB]
  have c : ∀ d e : D, hp d e = d.hp e := by intro d e; cases d <;> cases e <;> simp [D.wd, hp, D.hp]
  unfold clashB D.clash
  rw [a, a, b, b, c, c]
theorem commuting_e {h : IH} {w k : Nat} (W : Well h w k) (hk : k < 900000) {d e : D} (hd : d.ok 6) (he : e.ok 6) (cl : d.clash e = false) :
    ∃ h' : IH, f_u_law_is_commuting G [.ref w, d.u, e.u] h = .ok (.bl true) h' ∧ Nonempty (Well h' w (k + 201)) ∧ Drew h h' w := by
  suffices z : ∃ h' : IH, fnR 7 3 (c_u_law_is_commuting G) [.ref w, d.u, e.u] h = .ok (.bl true) h' ∧ Nonempty (Well h' w (k + 201)) ∧ Drew h h' w by
    obtain ⟨h', q, ⟨W'⟩, dr⟩ := z
    exact ⟨h', pop_drew q dr W' rfl, ⟨W'⟩, dr⟩
  obtain ⟨m, h1, e1, l1, ⟨W1⟩, d1⟩ := draw_e G W (by omega) (m := 25) (by omega) (by omega)
  have e1 : f_u_law_draw G [.ref w, .int 25] h = .ok (.int m) h1 := e1
  obtain ⟨ds, h2, e2, l2, o2, ⟨W2⟩, d2⟩ := deeds_loop G (ys := (rngS 0 m).items) (w := w) (n := 3) (by omega) (by omega) m (rngS 0 m).items [] h1 (k + 1) [some (.ref w), some d.u, some e.u, none, none, none, none] (by simp [rngS]) W1 (by omega) (by simp; omega) rfl (by simp) (by simp)
  have e2 : compGo (rngS 0 m) (nmG 6) (yesB) (callF 2 (f_u_law_deed G) (consA (vE 0) (consA (cE (.int 3)) (nilA)))) [some (.ref w), some d.u, some e.u, none, none, none, none] (rngS 0 m).items h1 [] = .ok (ds.map D.u) h2 := e2
  refine ⟨h2, ?_, ⟨W2.mono (by omega)⟩, d1.trans d2⟩
  rw [fnR_e]
  have ll : ds.length ≤ 24 := by rw [l2]; simp; omega
  have od : ∀ x ∈ ds, x.ok 6 := fun x hx => (o2 x hx).mono (by omega)
  have r1 := run_e G 6 (ds ++ [d, e]) h2 (by omega) (by simp; omega) (fun x hx => by
    rcases List.mem_append.mp hx with hx | hx
    · exact od x hx
    · simp at hx; rcases hx with rfl | rfl <;> assumption)
  have r2 := run_e G 6 (ds ++ [e, d]) h2 (by omega) (by simp; omega) (fun x hx => by
    rcases List.mem_append.mp hx with hx | hx
    · exact od x hx
    · simp at hx; rcases hx with rfl | rfl <;> assumption)
  have ws : ((S.empty 6).run ds).1.WF := (S.WF.empty 6).run ds
  have Bs : ((S.empty 6).run ds).1.Bd (0 + ds.length) := run_bd (S.Bd.empty 6) od
  have rs : ((S.empty 6).run ds).1.root.length = 6 := by rw [run_root]; simp [S.empty]
  have ks : ((S.empty 6).run ds).1.weak.length = 4 := by rw [run_weak]; simp [S.empty]
  have pc := pic_comm ws cl
  have a1 := an_st ws cl
  have a2 := an_st ws (d := e) (e := d) (by rw [D.clash_comm]; exact cl)
  have Bd1 := Bs.st hd
  have Bd2 := Bd1.st he
  have pf := pic_fit ((ws.st d).st e) Bd2 (by omega) (by rw [root_len, root_len, rs]; omega) (by rw [weak_len, weak_len, ks])
  have f1 := an_fit Bs (by omega) d
  have f2 := an_fit Bs (by omega) e
  have u1 : runU 6 (ds ++ [d, e]) = .tup [.tup (((S.empty 6).run ds).2.map An.u ++ [(((S.empty 6).run ds).1.an d).u, (((S.empty 6).run ds).1.an e).u]), ((((S.empty 6).run ds).1.st d).st e).pic.u] := by
    unfold runU
    rw [run_append]
    simp only [S.run, a1, List.map_append, List.map_cons, List.map_nil]
  have u2 : runU 6 (ds ++ [e, d]) = .tup [.tup (((S.empty 6).run ds).2.map An.u ++ [(((S.empty 6).run ds).1.an e).u, (((S.empty 6).run ds).1.an d).u]), ((((S.empty 6).run ds).1.st d).st e).pic.u] := by
    unfold runU
    rw [run_append]
    simp only [S.run, a2, List.map_append, List.map_cons, List.map_nil, ← pc]
  rw [u1] at r1
  rw [u2] at r2
  generalize ((S.empty 6).run ds).1 = s at *
  generalize (((S.empty 6).run ds).2.map An.u) = A at *
  have fa : Fit (.tuple [(s.an d).d, (s.an e).d]) 3 20000 := (Fits.cons f1 (Fits.cons f2 Fits.nil)).tup.mono (by omega) (by omega)
  have ta : tD h2 (.tup [(s.an d).u, (s.an e).u]) = some (.tuple [(s.an d).d, (s.an e).d]) := pD_tup (by simp only [pDs, pD_an])
  obtain ⟨q1, q2⟩ := pf.repr (h := h2) (u := ((s.st d).st e).pic.u) (pD_pic _) (by omega) (by omega)
  obtain ⟨q3, q4⟩ := fa.repr ta (by omega) (by omega)
  have c1 := cut_last2 A (s.an d).u (s.an e).u
  have c2 := cut_last2 A (s.an e).u (s.an d).u
  have rg : rng1f (.ok [.int (m : Int)] h1) = .ok (rngS 0 m) h1 := rng1f_ok m h1 (by omega)
  simp only [List.map_append, List.map_cons, List.map_nil] at r1 r2
  have r1 : f_u_law_run G [U.tup [U.int 6, U.tup (ds.map D.u ++ [d.u, e.u])]] h2 = _ := r1
  have r2 : f_u_law_run G [U.tup [U.int 6, U.tup (ds.map D.u ++ [e.u, d.u])]] h2 = _ := r2
  have ad : ∀ x y : D, addU false (.tup (ds.map D.u)) (.tup [x.u, y.u]) h2 = .ok (.tup (ds.map D.u ++ [x.u, y.u])) h2 := fun x y => by
    unfold addU
    dsimp only
    rw [if_pos (by rw [sizeL, List.length_map]; simp; omega)]
  simp -implicitDefEqProofs [c_u_law_is_commuting, e1, rng1_e, rg, wipeE, e2, -compGo_c, -compGo_n, ad, r1, r2, q1, c1, c2, q3, eqU_s, q2, q4]
end PD.K76

set_option Elab.async false
set_option linter.all false
set_option maxRecDepth 100000
set_option maxHeartbeats 4000000
namespace PD.K76
open PySem PySem.Spec PyProof.Rows L2
variable (G : Glb)
noncomputable def turnB : SM := seq (asgS (callF 1 (f_u_law_pair G) (consA (vE 2) (nilA))) (seqG 2 (consG (nmG 4) (consG (nmG 5) (nilG))))) (seq (asgS (callF 2 (f_u_law_clash G) (consA (vE 4) (consA (vE 5) (nilA)))) (nmG 6)) (seq (ifS (asB (bin (eqU true) (callA (on1 reprU) (consA (lstE false (consA (callF 2 (f_clash G) (consA (vE 4) (consA (vE 5) (nilA)))) (consA (callK 2 2 [1, 0] (f_clash G) (consA (vE 4) (consA (vE 5) (nilA)))) (nilA)))) (nilA))) (callA (on1 reprU) (consA (lstE false (consA (vE 6) (consA (vE 6) (nilA)))) (nilA))))) (retS (cE (.bl false))) (nxS)) (ifS (andB (notB (tst (vE 6))) (notB (tst (callF 3 (f_u_law_is_commuting G) (consA (vE 2) (consA (vE 4) (consA (vE 5) (nilA)))))))) (retS (cE (.bl false))) (nxS))))
noncomputable def cellB : SM := seq (asgS (callF 2 (f_u_law_well G) (consA (vE 0) (consA (vE 1) (nilA)))) (nmG 2)) (seq (forS (rng1 (consA (cE (.int 12)) (nilA))) (nmG 3) (turnB G)) (seq (asgS (lstE false (consA (cE .non) (consA (lstE false (consA (vE 4) (nilA))) (consA (slE false (vE 4) (noP) (someP (negE (cE (.int 1))))) (consA (bin (addU false) (vE 4) (tupE (consA (cE (.int 0)) (nilA)))) (consA (tupE (consA (cE (.str "clear")) (consA (cE (.int 6)) (nilA)))) (consA (tupE (consA (cE (.str "write")) (consA (cE (.int 0)) (consA (cE (.int 0)) (consA (cE (.int 1001)) (nilA)))))) (consA (tupE (consA (cE (.str "new")) (consA (cE (.int 0)) (consA (cE (.int 5)) (consA (cE (.int 0)) (nilA)))))) (nilA))))))))) (nmG 7)) (seq (asgS (bin (addU false) (vE 7) (lstE false (consA (tupE (consA (cE (.str "read")) (consA (cE (.bl true)) (consA (cE (.int 0)) (nilA))))) (nilA)))) (nmG 7)) (seq (asgS (bin (addU false) (vE 7) (lstE false (consA (tupE (consA (cE (.str "gather")) (consA (cE (.int 0)) (nilA)))) (consA (tupE (consA (cE (.str "Clear")) (consA (cE (.int 0)) (nilA)))) (consA (tupE (nilA)) (consA (cE (.str "gather")) (consA (tupE (consA (cE (.str "weak")) (consA (cE (.int 4)) (consA (cE (.int 0)) (nilA))))) (consA (tupE (consA (cE (.str "link")) (consA (cE (.int 0)) (consA (cE (.int 4)) (consA (cE (.int 0)) (nilA)))))) (consA (tupE (consA (cE (.str "next")) (consA (negE (cE (.int 1))) (nilA)))) (nilA)))))))))) (nmG 7)) (seq (asgS (bin (addU false) (vE 7) (lstE false (consA (tupE (consA (cE .non) (consA (cE (.int 0)) (nilA)))) (nilA)))) (nmG 7)) (seq (asgS (bin (sbU G.tab) (vE 7) (callF 2 (f_u_law_draw G) (consA (vE 2) (consA (cE (.int 16)) (nilA))))) (nmG 8)) (seq (ifS (andB (asB (bin (eqU true) (vE 8) (vE 4))) (notB (tst (callF 3 (f_u_law_refused G) (consA (vE 8) (consA (cE .non) (consA (vE 8) (nilA)))))))) (retS (cE (.bl false))) (nxS)) (ifS (andB (asB (bin (eqU true) (vE 8) (vE 4))) (notB (tst (callF 3 (f_u_law_refused G) (consA (vE 5) (consA (vE 8) (consA (vE 8) (nilA)))))))) (retS (cE (.bl false))) (nxS)))))))))
theorem repr_bb (c : Bool) (h : IH) : ∃ t, reprU (.lst [.bl c, .bl c]) h = .ok (.str t) h ∧ PyData.strOk t = true := by
  have f : Fit (.list [.bool c, .bool c]) 1 3 := (Fits.cons (Fit.bl c) (Fits.cons (Fit.bl c) Fits.nil)).lst.mono (by omega) (by omega)
  exact ⟨_, f.repr (u := .lst [.bl c, .bl c]) rfl (by omega) (by omega)⟩
theorem turn_e {S K : U} {a3 a4 a5 a6 a7 a8 : Option U} {h : IH} {w k : Nat} (W : Well h w k) (hk : k < 800000) :
    ∃ (d e : D) (c : Bool) (h' : IH), turnB G [some S, some K, some (.ref w), a3, a4, a5, a6, a7, a8] h = .fl (.nx [some S, some K, some (.ref w), a3, some d.u, some e.u, some (.bl c), a7, a8]) h' ∧ d.ok 6 ∧ e.ok 6 ∧ Nonempty (Well h' w (k + 218)) ∧ Drew h h' w := by
  obtain ⟨d, e, h1, e1, o1, o2, ⟨W1⟩, d1⟩ := pair_e G W (by omega)
  have c1 := law_clash_e G d e h1
  have c2 := clash_ok G d e h1 o1 o2
  have c3 := clash_ok G e d h1 o2 o1
  rw [clash_is] at c1 c2 c3
  rw [D.clash_comm] at c3
  obtain ⟨t, r1, r2⟩ := repr_bb (d.clash e) h1
  cases q : d.clash e with
  | true =>
    rw [q] at c1 c2 c3 r1
    refine ⟨d, e, true, h1, ?_, o1, o2, ⟨W1.mono (by omega)⟩, d1⟩
    simp -implicitDefEqProofs [turnB, e1, c1, c2, c3, r1, r2, eqU_s, pick]
  | false =>
    rw [q] at c1 c2 c3 r1
    obtain ⟨h2, e2, ⟨W2⟩, d2⟩ := commuting_e G W1 (by omega) o1 o2 q
    refine ⟨d, e, false, h2, ?_, o1, o2, ⟨W2.mono (by omega)⟩, d1.trans d2⟩
    simp -implicitDefEqProofs [turnB, e1, c1, c2, c3, r1, r2, eqU_s, pick, e2]
end PD.K76

set_option Elab.async false
set_option linter.all false
set_option maxRecDepth 100000
set_option maxHeartbeats 4000000
namespace PD.K76
open PySem PySem.Spec PyProof.Rows L2
variable (G : Glb)
theorem turns_e {S K : U} {w : Nat} {ys : List U} : ∀ (zs : List U) (h : IH) (k : Nat) (a3 a4 a5 a6 a7 a8 : Option U), Well h w k → k + 218 * zs.length < 800000 → zs ≠ [] →
    ∃ (d e : D) (b3 b6 : Option U) (h' : IH), forGo { items := ys } (nmG 3) (turnB G) zs [some S, some K, some (.ref w), a3, a4, a5, a6, a7, a8] h = .fl (.nx [some S, some K, some (.ref w), b3, some d.u, some e.u, b6, a7, a8]) h' ∧ d.ok 6 ∧ e.ok 6 ∧ Nonempty (Well h' w (k + 218 * zs.length)) ∧ Drew h h' w
  | [], _, _, _, _, _, _, _, _, _, _, n => absurd rfl n
  | z :: zs, h, k, a3, a4, a5, a6, a7, a8, W, hk, _ => by
    have hk : k + 218 * (zs.length + 1) < 800000 := hk
    obtain ⟨d, e, c, h1, e1, o1, o2, ⟨W1⟩, d1⟩ := turn_e G (S := S) (K := K) (a3 := some z) (a4 := a4) (a5 := a5) (a6 := a6) (a7 := a7) (a8 := a8) W (by omega)
    by_cases q : zs = []
    · subst q
      refine ⟨d, e, some z, some (.bl c), h1, ?_, o1, o2, ⟨W1.mono (by simp)⟩, d1⟩
      rw [forGo_cons At_nil, nmG_e, gthen_ok]
      simp only [List.set]
      rw [e1, turn_nx, forGo_nil At_nil]
    · obtain ⟨d', e', b3, b6, h2, e2, o3, o4, ⟨W2⟩, d2⟩ := turns_e zs h1 (k + 218) (some z) (some d.u) (some e.u) (some (.bl c)) a7 a8 W1 (by omega) q
      refine ⟨d', e', b3, b6, h2, ?_, o3, o4, ⟨W2.mono (by simp; omega)⟩, d1.trans d2⟩
      rw [forGo_cons At_nil, nmG_e, gthen_ok]
      simp only [List.set]
      rw [e1, turn_nx]
      exact e2
theorem d_nice (d : D) (hd : d.ok 6) (h : IH) : ∃ e, tD h d.u = some e ∧ Fit e 64 20000 := by
  cases d <;> simp only [D.ok] at hd <;> refine ⟨_, rfl, ?_, ?_, ?_⟩ <;>
    simp [nice_i, nices, nice_t, nice_l, nice_b, nice_0, PyData.depth, PyData.depthAll, cells, cellss, nw_new, nw_copy, nw_clear, nw_link, nw_follow, nw_write, nw_read, nw_same, nw_shape, nw_weak, nw_look, nw_wish, nw_next, nw_gather] <;> omega
theorem ne_some {u v : U} {x y : PyData} {h : IH} (hx : tD h u = some x) (hy : tD h v = some y) (fx : Fit x 64 20000) (fy : Fit y 64 20000) : ∃ c : Bool, eqU true u v h = .ok (.bl c) h :=
  ⟨_, eqU_d true hx hy (fx.shaped (by omega)) (fy.shaped (by omega))⟩
theorem sl_d (d : D) (h : IH) : slU false d.u none (some (-1)) h = .ok (.tup d.us.dropLast) h := by
  cases d <;> simp [D.u, D.us, cut, HT.sIx]
theorem add_d (d : D) (h : IH) : addU false d.u (.tup [.int 0]) h = .ok (.tup (d.us ++ [.int 0])) h := by
  cases d <;> simp [D.u, D.us, addU]
theorem cell_e {ns : List Int} {kk : Nat} (hkk : kk < 1000) {a2 a3 a4 a5 a6 a7 a8 : Option U} {h : IH} :
    ∃ (ρ' : Env) (h' : IH), cellB G [some (.scr (ns.map U.int)), some (.int kk), a2, a3, a4, a5, a6, a7, a8] h = .fl (.nx ([some (.scr (ns.map U.int)), some (.int kk)] ++ ρ')) h' ∧ ρ'.length = 7 := by
  obtain ⟨o, e0, ⟨W0⟩⟩ := well_e G ns kk hkk h
  obtain ⟨d, e, b3, b6, h1, e1, o1, o2, ⟨W1⟩, d1⟩ := turns_e G (S := .scr (ns.map U.int)) (K := .int kk) (w := h.length) (ys := (rngS 0 12).items) (rngS 0 12).items (h ++ [o]) 0 a3 a4 a5 a6 a7 a8 W0 (by simp [rngS]) (by simp [rngS])
  have e1 : forGo (rngS 0 12) (nmG 3) (turnB G) (rngS 0 12).items [some (.scr (ns.map U.int)), some (.int kk), some (.ref h.length), a3, a4, a5, a6, a7, a8] (h ++ [o]) = _ := e1
  have l12 : 0 + 218 * (rngS 0 12).items.length < 900000 := by simp [rngS]
  obtain ⟨b, h2, e2, l2, ⟨W2⟩, d2⟩ := draw_e G W1 (by omega) (m := 16) (by omega) (by omega)
  have e2 : f_u_law_draw G [.ref h.length, .int 16] h1 = .ok (.int b) h2 := e2
  obtain ⟨u, hu, nb⟩ : ∃ u, u ∈ bads d ∧ ∀ g, nthU (bads d) (b : Int) g = .ok u g := by
    have lb : b < (bads d).length := by simpa [bads] using l2
    exact ⟨(bads d)[b], List.getElem_mem lb, fun g => nth_g _ _ _ _ (List.getElem?_eq_getElem lb)⟩
  obtain ⟨x, tx, nx, dx, cx⟩ := bads_nice d o1 u hu h2
  have fx : Fit x 64 20000 := ⟨nx, dx, cx⟩
  obtain ⟨y, ty, fy⟩ := d_nice d o1 h2
  obtain ⟨c, ec⟩ := ne_some tx ty fx fy
  obtain ⟨r1, r2⟩ := fx.repr tx (by omega) (by omega)
  have rf1 := refused_e G u .non u h2 _ (clash_bad1 G d u .non h2 hu) r1 r2
  have rf2 := refused_e G e.u u u h2 _ (clash_bad2 G d e u h2 o2 hu) r1 r2
  have rg : rng1f (.ok [.int 12] (h ++ [o])) = .ok (rngS 0 12) (h ++ [o]) := rng1f_ok 12 _ (by omega)
  have a1 : ∀ (xs ys : List U) (g : IH), xs.length + ys.length ≤ 1000 → addU false (.lst xs) (.lst ys) g = .ok (.lst (xs ++ ys)) g := fun xs ys g l => by
    unfold addU
    simp only [itO]
    rw [newL_f _ _ (by rw [sizeL, List.length_append]; omega)]
  have nb2 : nthU [.non, .lst [d.u], .tup d.us.dropLast, .tup (d.us ++ [.int 0]), .tup [.str "clear", .int 6], .tup [.str "write", .int 0, .int 0, .int 1001], .tup [.str "new", .int 0, .int 5, .int 0], .tup [.str "read", .bl true, .int 0],
  .tup [.str "gather", .int 0], .tup [.str "Clear", .int 0], .tup [], .str "gather", .tup [.str "weak", .int 4, .int 0], .tup [.str "link", .int 0, .int 4, .int 0], .tup [.str "next", .int (-1)], .tup [.non, .int 0]] (b : Int) h2 = .ok u h2 := nb h2
  refine ⟨[some (.ref h.length), b3, some d.u, some e.u, b6, some (.lst (bads d)), some u], h2, ?_, rfl⟩
  simp -implicitDefEqProofs [cellB, e0, rng1_e, rg, e1, -forGo_c, -forGo_n, sl_d, add_d, a1, e2, nb2, ec, rf1, rf2, bads]
theorem cells_e {ns : List Int} {ys : List U} : ∀ (zs : List Nat) (h : IH) (ρ : Env), (∀ z ∈ zs, z < 1000) → ρ.length = 8 → ∃ (ρ' : Env) (h' : IH), forGo { items := ys } (nmG 1) (cellB G) (zs.map fun z => U.int (z : Nat)) (some (.scr (ns.map U.int)) :: ρ) h = .fl (.nx ρ') h'
  | [], h, ρ, _, _ => ⟨_, h, by rw [List.map_nil, forGo_nil At_nil]⟩
  | z :: zs, h, ρ, hz, hl => by
    match ρ, hl with
    | [a1, a2, a3, a4, a5, a6, a7, a8], _ =>
      obtain ⟨ρ1, h1, e1, l1⟩ := cell_e G (ns := ns) (kk := z) (hz z (by simp)) (a2 := a2) (a3 := a3) (a4 := a4) (a5 := a5) (a6 := a6) (a7 := a7) (a8 := a8) (h := h)
      obtain ⟨ρ', h', e2⟩ := cells_e zs h1 (some (.int z) :: ρ1) (fun y hy => hz y (by simp [hy])) (by simp [l1])
      refine ⟨ρ', h', ?_⟩
      rw [List.map_cons, forGo_cons At_nil, nmG_e, gthen_ok]
      simp only [List.set]
      rw [e1, turn_nx]
      exact e2
theorem min_max (n : Nat) : ∃ m : Nat, m ≤ 4 ∧ (if (if (n : Int) < 4 then (n : Int) else 4) > 1 then (if (n : Int) < 4 then (n : Int) else 4) else 1) = (m : Int) := by
  by_cases h : (n : Int) < 4
  · rw [if_pos h]
    by_cases g : (n : Int) > 1
    · exact ⟨n, by omega, by rw [if_pos g]⟩
    · exact ⟨1, by omega, by rw [if_neg g]; rfl⟩
  · rw [if_neg h]
    exact ⟨4, by omega, by decide⟩
theorem law_true (ns : List Int) : ∃ h', f_law G [.scr (ns.map U.int)] [] = .ok (.bl true) h' := by
  obtain ⟨m, lm, em⟩ := min_max ns.length
  have ri : (rngS 0 m).items = (List.range m).map fun z => U.int (z : Nat) := by
    simp [rngS]
  obtain ⟨ρ', h', e⟩ := cells_e G (ns := ns) (ys := (rngS 0 m).items) (List.range m) [] [none, none, none, none, none, none, none, none] (fun z hz => by have := List.mem_range.mp hz; omega) rfl
  rw [← ri] at e
  have e : forGo (rngS 0 m) (nmG 1) (cellB G) (rngS 0 m).items [some (.scr (ns.map U.int)), none, none, none, none, none, none, none, none] [] = _ := e
  refine ⟨[], ?_⟩
  have rg := rng1f_ok m [] (by omega)
  have k : fnR 9 1 (c_law G) [.scr (ns.map U.int)] [] = .ok (.bl true) h' := by
    rw [fnR_e]
    show (seq (forS (rng1 (consA (callA (on2 max2U) (consA (cE (.int 1)) (consA (callA (on2 min2U) (consA (cE (.int 4)) (consA (callA (on1 lenU) (consA (vE 0) (nilA))) (nilA)))) (nilA)))) (nilA))) (nmG 1) (cellB G)) (retS (cE (.bl true))) [some (.scr (ns.map U.int)), none, none, none, none, none, none, none, none] []).fin = _
    have mm : callA (on2 max2U) (consA (cE (.int 1)) (consA (callA (on2 min2U) (consA (cE (.int 4)) (consA (callA (on1 lenU) (consA (vE 0) (nilA))) (nilA)))) (nilA))) [some (.scr (ns.map U.int)), none, none, none, none, none, none, none, none] [] = .ok (.int m) [] := by
      simp only [callA_e, consA_e, cE_e, consA1_ok, vE_z, nilA_e, consA2_ok, callA1_ok, on1_e, len_s, List.length_map, on2_e]
      show R.ok (U.int (if (if (ns.length : Int) < 4 then (ns.length : Int) else 4) > 1 then (if (ns.length : Int) < 4 then (ns.length : Int) else 4) else 1)) [] = _
      rw [em]
    rw [seq_e, forS_e, rng1_e, consA_e, mm, consA1_ok, nilA_e, consA2_ok, rg, for1_ok, e, thn_nx, retS_e, cE_e, retS1_ok, fin_rt]
  rw [show f_law G = popF (fnR 9 1 (c_law G)) from rfl, pop_kpt k ⟨Nat.zero_le _, fun i hi => absurd hi (by simp)⟩ rfl]
  rfl
end PD.K76

set_option Elab.async false
set_option linter.all false
set_option maxRecDepth 100000
set_option maxHeartbeats 8000000
namespace PD.K76
open PySem PySem.Spec PyProof.Rows L2
theorem all_mk {P : Program} {w : World} {K : PySem.W.Frag} {h : Heap} {mg : Str → Option Value} {fa : Addr} (X : K.In h) (Gm : h.Ns mainGlobals mg) (hfa : mg "law" = some (.ref fa))
    {f0 : Addr} {od0 an0 : Option Addr} {sl0 : Array (Option Value)} {oc0 kV0 dc0 pm0 cd0 ct0 : Value}
    {f1 : Addr} {od1 an1 : Option Addr} {sl1 : Array (Option Value)} {oc1 kV1 dc1 pm1 cd1 ct1 : Value}
    {f2 : Addr} {od2 an2 : Option Addr} {sl2 : Array (Option Value)} {oc2 kV2 dc2 pm2 cd2 ct2 : Value}
    {f3 : Addr} {od3 an3 : Option Addr} {sl3 : Array (Option Value)} {oc3 kV3 dc3 pm3 cd3 ct3 : Value}
    {f4 : Addr} {od4 an4 : Option Addr} {sl4 : Array (Option Value)} {oc4 kV4 dc4 pm4 cd4 ct4 : Value}
    {f5 : Addr} {od5 an5 : Option Addr} {sl5 : Array (Option Value)} {oc5 kV5 dc5 pm5 cd5 ct5 : Value}
    {f6 : Addr} {od6 an6 : Option Addr} {sl6 : Array (Option Value)} {oc6 kV6 dc6 pm6 cd6 ct6 : Value}
    {f7 : Addr} {od7 an7 : Option Addr} {sl7 : Array (Option Value)} {oc7 kV7 dc7 pm7 cd7 ct7 : Value}
    {f8 : Addr} {od8 an8 : Option Addr} {sl8 : Array (Option Value)} {oc8 kV8 dc8 pm8 cd8 ct8 : Value}
    {f9 : Addr} {od9 an9 : Option Addr} {sl9 : Array (Option Value)} {oc9 kV9 dc9 pm9 cd9 ct9 : Value}
    {f10 : Addr} {od10 an10 : Option Addr} {sl10 : Array (Option Value)} {oc10 kV10 dc10 pm10 cd10 ct10 : Value}
    {f11 : Addr} {od11 an11 : Option Addr} {sl11 : Array (Option Value)} {oc11 kV11 dc11 pm11 cd11 ct11 : Value}
    {f12 : Addr} {od12 an12 : Option Addr} {sl12 : Array (Option Value)} {oc12 kV12 dc12 pm12 cd12 ct12 : Value}
    {f13 : Addr} {od13 an13 : Option Addr} {sl13 : Array (Option Value)} {oc13 kV13 dc13 pm13 cd13 ct13 : Value}
    {f14 : Addr} {od14 an14 : Option Addr} {sl14 : Array (Option Value)} {oc14 kV14 dc14 pm14 cd14 ct14 : Value}
    {f15 : Addr} {od15 an15 : Option Addr} {sl15 : Array (Option Value)} {oc15 kV15 dc15 pm15 cd15 ct15 : Value}
    {f16 : Addr} {od16 an16 : Option Addr} {sl16 : Array (Option Value)} {oc16 kV16 dc16 pm16 cd16 ct16 : Value}
    {f17 : Addr} {od17 an17 : Option Addr} {sl17 : Array (Option Value)} {oc17 kV17 dc17 pm17 cd17 ct17 : Value}
    {f18 : Addr} {od18 an18 : Option Addr} {sl18 : Array (Option Value)} {oc18 kV18 dc18 pm18 cd18 ct18 : Value}
    {f19 : Addr} {od19 an19 : Option Addr} {sl19 : Array (Option Value)} {oc19 kV19 dc19 pm19 cd19 ct19 : Value}
    {f20 : Addr} {od20 an20 : Option Addr} {sl20 : Array (Option Value)} {oc20 kV20 dc20 pm20 cd20 ct20 : Value}
    {f21 : Addr} {od21 an21 : Option Addr} {sl21 : Array (Option Value)} {oc21 kV21 dc21 pm21 cd21 ct21 : Value}
    {f22 : Addr} {od22 an22 : Option Addr} {sl22 : Array (Option Value)} {oc22 kV22 dc22 pm22 cd22 ct22 : Value}
    {f23 : Addr} {od23 an23 : Option Addr} {sl23 : Array (Option Value)} {oc23 kV23 dc23 pm23 cd23 ct23 : Value}
    {f24 : Addr} {od24 an24 : Option Addr} {sl24 : Array (Option Value)} {oc24 kV24 dc24 pm24 cd24 ct24 : Value}
    {f25 : Addr} {od25 an25 : Option Addr} {sl25 : Array (Option Value)} {oc25 kV25 dc25 pm25 cd25 ct25 : Value}
    {f26 : Addr} {od26 an26 : Option Addr} {sl26 : Array (Option Value)} {oc26 kV26 dc26 pm26 cd26 ct26 : Value}
    {f27 : Addr} {od27 an27 : Option Addr} {sl27 : Array (Option Value)} {oc27 kV27 dc27 pm27 cd27 ct27 : Value}
    {tk1 : Tok}
    {tk2 : Tok}
    {S3 : Addr} {nn4 : Nat}
    {hh5 : Int} {tk6 : Tok}
    {tk7 : Tok}
    {hh8 : Int} {tk9 : Tok}
    {tk10 : Tok}
    {hh11 : Int} {tk12 : Tok}
    {tk13 : Tok}
    {hh14 : Int} {tk15 : Tok}
    {tk16 : Tok}
    {hh17 : Int} {tk18 : Tok}
    {tk19 : Tok}
    {hh20 : Int} {tk21 : Tok}
    {tk22 : Tok}
    {hh23 : Int} {tk24 : Tok}
    {tk25 : Tok}
    {hh26 : Int} {tk27 : Tok}
    {tk28 : Tok}
    {hh29 : Int} {tk30 : Tok}
    {tk31 : Tok}
    {hh32 : Int} {tk33 : Tok}
    {tk34 : Tok}
    {hh35 : Int} {tk36 : Tok}
    {tk37 : Tok}
    {hh38 : Int} {tk39 : Tok}
    {tk40 : Tok}
    {hh41 : Int} {tk42 : Tok}
    {tk43 : Tok}
    {hh44 : Int} {tk45 : Tok}
    {tk46 : Tok}
    {ad47 : Addr} {nn48 : Nat} {dd49 : Option Addr} {ss50 : Array (Option Value)}
    {ad51 : Addr} {nn52 : Nat} {dd53 : Option Addr} {ss54 : Array (Option Value)}
    {tk55 : Tok}
    {tk56 : Tok}
    {ad58 : Addr} {nn59 : Nat} {dd60 : Option Addr} {ss61 : Array (Option Value)}
    {tk62 : Tok}
    {tk63 : Tok}
    {ad65 : Addr} {nn66 : Nat} {dd67 : Option Addr} {ss68 : Array (Option Value)}
    {tk69 : Tok}
    {tk70 : Tok}
    {ad72 : Addr} {nn73 : Nat} {dd74 : Option Addr} {ss75 : Array (Option Value)}
    {tk76 : Tok}
    {tk77 : Tok}
    {ad80 : Addr} {nn81 : Nat} {dd82 : Option Addr} {ss83 : Array (Option Value)}
    {tk84 : Tok}
    {tk85 : Tok}
    {ad87 : Addr} {nn88 : Nat} {dd89 : Option Addr} {ss90 : Array (Option Value)}
    {tk91 : Tok}
    {tk92 : Tok}
    {tk93 : Tok}
    {tk94 : Tok}
    {tk95 : Tok}
    {tk96 : Tok}
    {D fI cda cc : Addr} {odI anI cdd cld : Option Addr} {slI ccs csl : Array (Option Value)} {ocI dcI pmI ctI ccl cl : Value} {vs : Array Value} {file : Str} {tf : Tok} {ln c1_ c2_ l1_ l2_ e1_ e2_ : Nat} {ap1 ap2 p0_ p1_ p3_ p5_ q1_ q2_ q3_ q4_ : Pos}
    {C0 : Addr} {nm0 qn0 : Str} {N0 : Addr} {bs0 : List Value} {sn0 : List Str} {sub0 : List Value} {ab0 : Bool} {col0 : Option Bool} {dd0_ : Option Addr} {m00 m10 m20 m30 m50 : Option Value}
    (a0 : PySem.W.nsIn K mainGlobals "_law_well" = some (some (.ref f0)))
    (l0 : K.lookup f0 = some ⟨oc0, od0, .func (PySem.W.fnOf "_law_well" "_law_well" (defArgs st_u_law_well) (defBody st_u_law_well) (defScope st_u_law_well) .none kV0 dc0 pm0 an0 cd0 ct0), sl0⟩)
    (c0 : PySem.W.codeIn K cd0 "_law_well" = true)
    (k0 : PySem.W.keepIn K (.ref f0) = true)
    (a1 : PySem.W.nsIn K mainGlobals "_law_draw" = some (some (.ref f1)))
    (l1 : K.lookup f1 = some ⟨oc1, od1, .func (PySem.W.fnOf "_law_draw" "_law_draw" (defArgs st_u_law_draw) (defBody st_u_law_draw) (defScope st_u_law_draw) .none kV1 dc1 pm1 an1 cd1 ct1), sl1⟩)
    (c1 : PySem.W.codeIn K cd1 "_law_draw" = true)
    (k1 : PySem.W.keepIn K (.ref f1) = true)
    (a2 : PySem.W.nsIn K mainGlobals "_law_deed" = some (some (.ref f2)))
    (l2 : K.lookup f2 = some ⟨oc2, od2, .func (PySem.W.fnOf "_law_deed" "_law_deed" (defArgs st_u_law_deed) (defBody st_u_law_deed) (defScope st_u_law_deed) .none kV2 dc2 pm2 an2 cd2 ct2), sl2⟩)
    (c2 : PySem.W.codeIn K cd2 "_law_deed" = true)
    (k2 : PySem.W.keepIn K (.ref f2) = true)
    (a3 : PySem.W.nsIn K mainGlobals "_law_pair" = some (some (.ref f3)))
    (l3 : K.lookup f3 = some ⟨oc3, od3, .func (PySem.W.fnOf "_law_pair" "_law_pair" (defArgs st_u_law_pair) (defBody st_u_law_pair) (defScope st_u_law_pair) .none kV3 dc3 pm3 an3 cd3 ct3), sl3⟩)
    (c3 : PySem.W.codeIn K cd3 "_law_pair" = true)
    (k3 : PySem.W.keepIn K (.ref f3) = true)
    (a4 : PySem.W.nsIn K mainGlobals "_law_names" = some (some (.ref f4)))
    (l4 : K.lookup f4 = some ⟨oc4, od4, .func (PySem.W.fnOf "_law_names" "_law_names" (defArgs st_u_law_names) (defBody st_u_law_names) (defScope st_u_law_names) .none kV4 dc4 pm4 an4 cd4 ct4), sl4⟩)
    (c4 : PySem.W.codeIn K cd4 "_law_names" = true)
    (k4 : PySem.W.keepIn K (.ref f4) = true)
    (a5 : PySem.W.nsIn K mainGlobals "_law_clash" = some (some (.ref f5)))
    (l5 : K.lookup f5 = some ⟨oc5, od5, .func (PySem.W.fnOf "_law_clash" "_law_clash" (defArgs st_u_law_clash) (defBody st_u_law_clash) (defScope st_u_law_clash) .none kV5 dc5 pm5 an5 cd5 ct5), sl5⟩)
    (c5 : PySem.W.codeIn K cd5 "_law_clash" = true)
    (k5 : PySem.W.keepIn K (.ref f5) = true)
    (a6 : PySem.W.nsIn K mainGlobals "named_by" = some (some (.ref f6)))
    (l6 : K.lookup f6 = some ⟨oc6, od6, .func (PySem.W.fnOf "named_by" "named_by" (defArgs st_named_by) (defBody st_named_by) (defScope st_named_by) .none kV6 dc6 pm6 an6 cd6 ct6), sl6⟩)
    (c6 : PySem.W.codeIn K cd6 "named_by" = true)
    (k6 : PySem.W.keepIn K (.ref f6) = true)
    (a7 : PySem.W.nsIn K mainGlobals "changed_by" = some (some (.ref f7)))
    (l7 : K.lookup f7 = some ⟨oc7, od7, .func (PySem.W.fnOf "changed_by" "changed_by" (defArgs st_changed_by) (defBody st_changed_by) (defScope st_changed_by) .none kV7 dc7 pm7 an7 cd7 ct7), sl7⟩)
    (c7 : PySem.W.codeIn K cd7 "changed_by" = true)
    (k7 : PySem.W.keepIn K (.ref f7) = true)
    (a8 : PySem.W.nsIn K mainGlobals "do_clash" = some (some (.ref f8)))
    (l8 : K.lookup f8 = some ⟨oc8, od8, .func (PySem.W.fnOf "do_clash" "do_clash" (defArgs st_do_clash) (defBody st_do_clash) (defScope st_do_clash) .none kV8 dc8 pm8 an8 cd8 ct8), sl8⟩)
    (c8 : PySem.W.codeIn K cd8 "do_clash" = true)
    (k8 : PySem.W.keepIn K (.ref f8) = true)
    (a9 : PySem.W.nsIn K mainGlobals "is_word" = some (some (.ref f9)))
    (l9 : K.lookup f9 = some ⟨oc9, od9, .func (PySem.W.fnOf "is_word" "is_word" (defArgs st_is_word) (defBody st_is_word) (defScope st_is_word) .none kV9 dc9 pm9 an9 cd9 ct9), sl9⟩)
    (c9 : PySem.W.codeIn K cd9 "is_word" = true)
    (k9 : PySem.W.keepIn K (.ref f9) = true)
    (a10 : PySem.W.nsIn K mainGlobals "is_integer" = some (some (.ref f10)))
    (l10 : K.lookup f10 = some ⟨oc10, od10, .func (PySem.W.fnOf "is_integer" "is_integer" (defArgs st_is_integer) (defBody st_is_integer) (defScope st_is_integer) .none kV10 dc10 pm10 an10 cd10 ct10), sl10⟩)
    (c10 : PySem.W.codeIn K cd10 "is_integer" = true)
    (k10 : PySem.W.keepIn K (.ref f10) = true)
    (a11 : PySem.W.nsIn K mainGlobals "is_between" = some (some (.ref f11)))
    (l11 : K.lookup f11 = some ⟨oc11, od11, .func (PySem.W.fnOf "is_between" "is_between" (defArgs st_is_between) (defBody st_is_between) (defScope st_is_between) .none kV11 dc11 pm11 an11 cd11 ct11), sl11⟩)
    (c11 : PySem.W.codeIn K cd11 "is_between" = true)
    (k11 : PySem.W.keepIn K (.ref f11) = true)
    (a12 : PySem.W.nsIn K mainGlobals "is_part" = some (some (.ref f12)))
    (l12 : K.lookup f12 = some ⟨oc12, od12, .func (PySem.W.fnOf "is_part" "is_part" (defArgs st_is_part) (defBody st_is_part) (defScope st_is_part) .none kV12 dc12 pm12 an12 cd12 ct12), sl12⟩)
    (c12 : PySem.W.codeIn K cd12 "is_part" = true)
    (k12 : PySem.W.keepIn K (.ref f12) = true)
    (a13 : PySem.W.nsIn K mainGlobals "is_a_deed" = some (some (.ref f13)))
    (l13 : K.lookup f13 = some ⟨oc13, od13, .func (PySem.W.fnOf "is_a_deed" "is_a_deed" (defArgs st_is_a_deed) (defBody st_is_a_deed) (defScope st_is_a_deed) .none kV13 dc13 pm13 an13 cd13 ct13), sl13⟩)
    (c13 : PySem.W.codeIn K cd13 "is_a_deed" = true)
    (k13 : PySem.W.keepIn K (.ref f13) = true)
    (a14 : PySem.W.nsIn K mainGlobals "anew" = some (some (.ref f14)))
    (l14 : K.lookup f14 = some ⟨oc14, od14, .func (PySem.W.fnOf "anew" "anew" (defArgs st_anew) (defBody st_anew) (defScope st_anew) .none kV14 dc14 pm14 an14 cd14 ct14), sl14⟩)
    (c14 : PySem.W.codeIn K cd14 "anew" = true)
    (k14 : PySem.W.keepIn K (.ref f14) = true)
    (a15 : PySem.W.nsIn K mainGlobals "clash" = some (some (.ref f15)))
    (l15 : K.lookup f15 = some ⟨oc15, od15, .func (PySem.W.fnOf "clash" "clash" (defArgs st_clash) (defBody st_clash) (defScope st_clash) .none kV15 dc15 pm15 an15 cd15 ct15), sl15⟩)
    (c15 : PySem.W.codeIn K cd15 "clash" = true)
    (k15 : PySem.W.keepIn K (.ref f15) = true)
    (a16 : PySem.W.nsIn K mainGlobals "_law_refused" = some (some (.ref f16)))
    (l16 : K.lookup f16 = some ⟨oc16, od16, .func (PySem.W.fnOf "_law_refused" "_law_refused" (defArgs st_u_law_refused) (defBody st_u_law_refused) (defScope st_u_law_refused) .none kV16 dc16 pm16 an16 cd16 ct16), sl16⟩)
    (c16 : PySem.W.codeIn K cd16 "_law_refused" = true)
    (k16 : PySem.W.keepIn K (.ref f16) = true)
    (a17 : PySem.W.nsIn K mainGlobals "_law_store" = some (some (.ref f17)))
    (l17 : K.lookup f17 = some ⟨oc17, od17, .func (PySem.W.fnOf "_law_store" "_law_store" (defArgs st_u_law_store) (defBody st_u_law_store) (defScope st_u_law_store) .none kV17 dc17 pm17 an17 cd17 ct17), sl17⟩)
    (c17 : PySem.W.codeIn K cd17 "_law_store" = true)
    (k17 : PySem.W.keepIn K (.ref f17) = true)
    (a18 : PySem.W.nsIn K mainGlobals "_law_led" = some (some (.ref f18)))
    (l18 : K.lookup f18 = some ⟨oc18, od18, .func (PySem.W.fnOf "_law_led" "_law_led" (defArgs st_u_law_led) (defBody st_u_law_led) (defScope st_u_law_led) .none kV18 dc18 pm18 an18 cd18 ct18), sl18⟩)
    (c18 : PySem.W.codeIn K cd18 "_law_led" = true)
    (k18 : PySem.W.keepIn K (.ref f18) = true)
    (a19 : PySem.W.nsIn K mainGlobals "_law_picture" = some (some (.ref f19)))
    (l19 : K.lookup f19 = some ⟨oc19, od19, .func (PySem.W.fnOf "_law_picture" "_law_picture" (defArgs st_u_law_picture) (defBody st_u_law_picture) (defScope st_u_law_picture) .none kV19 dc19 pm19 an19 cd19 ct19), sl19⟩)
    (c19 : PySem.W.codeIn K cd19 "_law_picture" = true)
    (k19 : PySem.W.keepIn K (.ref f19) = true)
    (a20 : PySem.W.nsIn K mainGlobals "_law_part" = some (some (.ref f20)))
    (l20 : K.lookup f20 = some ⟨oc20, od20, .func (PySem.W.fnOf "_law_part" "_law_part" (defArgs st_u_law_part) (defBody st_u_law_part) (defScope st_u_law_part) .none kV20 dc20 pm20 an20 cd20 ct20), sl20⟩)
    (c20 : PySem.W.codeIn K cd20 "_law_part" = true)
    (k20 : PySem.W.keepIn K (.ref f20) = true)
    (a21 : PySem.W.nsIn K mainGlobals "_law_do_part" = some (some (.ref f21)))
    (l21 : K.lookup f21 = some ⟨oc21, od21, .func (PySem.W.fnOf "_law_do_part" "_law_do_part" (defArgs st_u_law_do_part) (defBody st_u_law_do_part) (defScope st_u_law_do_part) .none kV21 dc21 pm21 an21 cd21 ct21), sl21⟩)
    (c21 : PySem.W.codeIn K cd21 "_law_do_part" = true)
    (k21 : PySem.W.keepIn K (.ref f21) = true)
    (a22 : PySem.W.nsIn K mainGlobals "_law_gather" = some (some (.ref f22)))
    (l22 : K.lookup f22 = some ⟨oc22, od22, .func (PySem.W.fnOf "_law_gather" "_law_gather" (defArgs st_u_law_gather) (defBody st_u_law_gather) (defScope st_u_law_gather) .none kV22 dc22 pm22 an22 cd22 ct22), sl22⟩)
    (c22 : PySem.W.codeIn K cd22 "_law_gather" = true)
    (k22 : PySem.W.keepIn K (.ref f22) = true)
    (a23 : PySem.W.nsIn K mainGlobals "_law_wish" = some (some (.ref f23)))
    (l23 : K.lookup f23 = some ⟨oc23, od23, .func (PySem.W.fnOf "_law_wish" "_law_wish" (defArgs st_u_law_wish) (defBody st_u_law_wish) (defScope st_u_law_wish) .none kV23 dc23 pm23 an23 cd23 ct23), sl23⟩)
    (c23 : PySem.W.codeIn K cd23 "_law_wish" = true)
    (k23 : PySem.W.keepIn K (.ref f23) = true)
    (a24 : PySem.W.nsIn K mainGlobals "_law_do" = some (some (.ref f24)))
    (l24 : K.lookup f24 = some ⟨oc24, od24, .func (PySem.W.fnOf "_law_do" "_law_do" (defArgs st_u_law_do) (defBody st_u_law_do) (defScope st_u_law_do) .none kV24 dc24 pm24 an24 cd24 ct24), sl24⟩)
    (c24 : PySem.W.codeIn K cd24 "_law_do" = true)
    (k24 : PySem.W.keepIn K (.ref f24) = true)
    (a25 : PySem.W.nsIn K mainGlobals "_law_run" = some (some (.ref f25)))
    (l25 : K.lookup f25 = some ⟨oc25, od25, .func (PySem.W.fnOf "_law_run" "_law_run" (defArgs st_u_law_run) (defBody st_u_law_run) (defScope st_u_law_run) .none kV25 dc25 pm25 an25 cd25 ct25), sl25⟩)
    (c25 : PySem.W.codeIn K cd25 "_law_run" = true)
    (k25 : PySem.W.keepIn K (.ref f25) = true)
    (a26 : PySem.W.nsIn K mainGlobals "_law_is_commuting" = some (some (.ref f26)))
    (l26 : K.lookup f26 = some ⟨oc26, od26, .func (PySem.W.fnOf "_law_is_commuting" "_law_is_commuting" (defArgs st_u_law_is_commuting) (defBody st_u_law_is_commuting) (defScope st_u_law_is_commuting) .none kV26 dc26 pm26 an26 cd26 ct26), sl26⟩)
    (c26 : PySem.W.codeIn K cd26 "_law_is_commuting" = true)
    (k26 : PySem.W.keepIn K (.ref f26) = true)
    (a27 : PySem.W.nsIn K mainGlobals "law" = some (some (.ref f27)))
    (l27 : K.lookup f27 = some ⟨oc27, od27, .func (PySem.W.fnOf "law" "law" (defArgs st_law) (defBody st_law) (defScope st_law) .none kV27 dc27 pm27 an27 cd27 ct27), sl27⟩)
    (c27 : PySem.W.codeIn K cd27 "law" = true)
    (k27 : PySem.W.keepIn K (.ref f27) = true)
    (z_abs : PySem.W.nsIn K mainGlobals "abs" = some none)
    (z_all : PySem.W.nsIn K mainGlobals "all" = some none)
    (z_any : PySem.W.nsIn K mainGlobals "any" = some none)
    (z_bool : PySem.W.nsIn K mainGlobals "bool" = some none)
    (z_dict : PySem.W.nsIn K mainGlobals "dict" = some none)
    (z_enumerate : PySem.W.nsIn K mainGlobals "enumerate" = some none)
    (z_int : PySem.W.nsIn K mainGlobals "int" = some none)
    (z_isinstance : PySem.W.nsIn K mainGlobals "isinstance" = some none)
    (z_len : PySem.W.nsIn K mainGlobals "len" = some none)
    (z_list : PySem.W.nsIn K mainGlobals "list" = some none)
    (z_max : PySem.W.nsIn K mainGlobals "max" = some none)
    (z_min : PySem.W.nsIn K mainGlobals "min" = some none)
    (z_range : PySem.W.nsIn K mainGlobals "range" = some none)
    (z_repr : PySem.W.nsIn K mainGlobals "repr" = some none)
    (z_str : PySem.W.nsIn K mainGlobals "str" = some none)
    (z_tuple : PySem.W.nsIn K mainGlobals "tuple" = some none)
    (z_zip : PySem.W.nsIn K mainGlobals "zip" = some none)
    (g_MOST_ROOTS : PySem.W.nsIn K mainGlobals "MOST_ROOTS" = some (some (.int 6 tk1)))
    (g_MOST_NUMBER : PySem.W.nsIn K mainGlobals "MOST_NUMBER" = some (some (.int 1000 tk2)))
    (g_SHAPES : PySem.W.nsIn K mainGlobals "SHAPES" = some (some (.ref S3)))
    (ld_SHAPES : K.lookup S3 = some ⟨.type "dict", none, .dict #[⟨hh5, .str "new" tk6, .str "rpp" tk7⟩, ⟨hh8, .str "copy" tk9, .str "rr" tk10⟩, ⟨hh11, .str "clear" tk12, .str "r" tk13⟩, ⟨hh14, .str "link" tk15, .str "rir" tk16⟩, ⟨hh17, .str "follow" tk18, .str "rri" tk19⟩, ⟨hh20, .str "write" tk21, .str "rin" tk22⟩, ⟨hh23, .str "read" tk24, .str "ri" tk25⟩, ⟨hh26, .str "same" tk27, .str "rr" tk28⟩, ⟨hh29, .str "shape" tk30, .str "r" tk31⟩, ⟨hh32, .str "weak" tk33, .str "ir" tk34⟩, ⟨hh35, .str "look" tk36, .str "ri" tk37⟩, ⟨hh38, .str "wish" tk39, .str "r" tk40⟩, ⟨hh41, .str "next" tk42, .str "r" tk43⟩, ⟨hh44, .str "gather" tk45, .str "" tk46⟩] nn4, #[]⟩)
    (kl_SHAPES : PySem.W.KeysLit w.params [⟨hh5, .str "new" tk6, .str "rpp" tk7⟩, ⟨hh8, .str "copy" tk9, .str "rr" tk10⟩, ⟨hh11, .str "clear" tk12, .str "r" tk13⟩, ⟨hh14, .str "link" tk15, .str "rir" tk16⟩, ⟨hh17, .str "follow" tk18, .str "rri" tk19⟩, ⟨hh20, .str "write" tk21, .str "rin" tk22⟩, ⟨hh23, .str "read" tk24, .str "ri" tk25⟩, ⟨hh26, .str "same" tk27, .str "rr" tk28⟩, ⟨hh29, .str "shape" tk30, .str "r" tk31⟩, ⟨hh32, .str "weak" tk33, .str "ir" tk34⟩, ⟨hh35, .str "look" tk36, .str "ri" tk37⟩, ⟨hh38, .str "wish" tk39, .str "r" tk40⟩, ⟨hh41, .str "next" tk42, .str "r" tk43⟩, ⟨hh44, .str "gather" tk45, .str "" tk46⟩])
    (lo_SHAPES : (S3 == sysModules) = false)
    (g_OF_HEAP : PySem.W.nsIn K mainGlobals "OF_HEAP" = some (some (.ref ad47)))
    (lk79 : K.lookup ad47 = some ⟨.type "tuple", dd49, .seq #[(.ref ad51), (.ref ad58), (.ref ad65), (.ref ad72)] nn48, ss50⟩)
    (lk57 : K.lookup ad51 = some ⟨.type "tuple", dd53, .seq #[(.str "link" tk55), (.str "link" tk56)] nn52, ss54⟩)
    (lk64 : K.lookup ad58 = some ⟨.type "tuple", dd60, .seq #[(.str "link" tk62), (.str "follow" tk63)] nn59, ss61⟩)
    (lk71 : K.lookup ad65 = some ⟨.type "tuple", dd67, .seq #[(.str "write" tk69), (.str "write" tk70)] nn66, ss68⟩)
    (lk78 : K.lookup ad72 = some ⟨.type "tuple", dd74, .seq #[(.str "write" tk76), (.str "read" tk77)] nn73, ss75⟩)
    (g_LISTS : PySem.W.nsIn K mainGlobals "LISTS" = some (some (.ref ad80)))
    (lk86 : K.lookup ad80 = some ⟨.type "tuple", dd82, .seq #[(.str "wish" tk84), (.str "next" tk85)] nn81, ss83⟩)
    (g_CHANGING : PySem.W.nsIn K mainGlobals "CHANGING" = some (some (.ref ad87)))
    (lk97 : K.lookup ad87 = some ⟨.type "tuple", dd89, .seq #[(.str "new" tk91), (.str "copy" tk92), (.str "clear" tk93), (.str "follow" tk94), (.str "look" tk95), (.str "next" tk96)] nn88, ss90⟩)
    (aD : PySem.W.nsIn K mainGlobals "HeapError" = some (some (.ref D)))
    (iD : PySem.W.findIn K (.ref D) "__init__" = some (some (.ref fI)))
    (lI : K.lookup fI = some ⟨ocI, odI, .func (PySem.W.ksFn "__init__" "HeapError.__init__" (eiA ap1 ap2) (eiB "heapworks" 0 ln c1_ c2_ l1_ l2_ e1_ e2_ p0_ p1_ p3_ p5_ q1_ q2_ q3_ q4_) eiS .none .none dcI pmI anI (.ref cda) ctI cc), slI⟩)
    (cI : PySem.W.codeIn K (.ref cda) "HeapError.__init__" = true)
    (lC : K.lookup cda = some ⟨ccl, cdd, .fields vs, ccs⟩)
    (hV : vs[2]? = some (.str file tf))
    (hF : ((P.main.file : Str) == file) = true)
    (lL : K.lookup cc = some ⟨cl, cld, .cell (some (.ref D)), csl⟩)
    (isD : PySem.W.isClsIn K D = true)
    (opD : PySem.W.nsIn K cStatics "thirdparty.any" = some none)
    (zS : PySem.W.nsIn K mainGlobals "super" = some none)
    (tS : (P.main.scope.names.lookup ("super" : Str)).isSome = false)
    (tI : PySem.W.typeIn K (.ref fI) = some (.type "function"))
    (exD : PySem.W.subIn K (.ref D) (.type "BaseException") = some true)
    (hdD : PySem.W.hasDictIn K D = true)
    (tyD : PySem.W.typeIn K (.ref D) = some (.type "type"))
    (aC_0 : PySem.W.nsIn K mainGlobals "InvalidDeed" = some (some (.ref C0)))
    (xL_0 : K.lookup C0 = some (excClassObj nm0 qn0 C0 N0 bs0 [.ref D, .type "ValueError", .type "Exception", .type "BaseException", .type "object"] true sn0 sub0 ab0 col0 dd0_ m00 m10 m20 m30 m50 "ValueError.__new__"))
    (inD_0 : PySem.W.mroIn K C0 (.ref D) = some true)
    (ve_0 : PySem.W.subIn K (.ref C0) (.type "ValueError") = some true)
    (su_0 : PySem.W.ks_superIn K C0 D "__init__" = some (some (.builtin "ValueError.__init__")))
    (sa_0 : PySem.W.findIn K (.ref C0) "__setattr__" = some (some (.builtin "object.__setattr__")))
    (nv_0 : PySem.W.findIn K (.ref C0) "value" = some none)
    (ini_0 : PySem.W.findIn K (.ref C0) "__init__" = some (some (.ref fI)))
    (kC_0 : PySem.W.keepIn K (.ref C0) = true)
    (exC_0 : PySem.W.subIn K (.ref C0) (.type "BaseException") = some true)
    (tyC_0 : PySem.W.typeIn K (.ref C0) = some (.type "type"))
    (ga_0 : PySem.W.findIn K (.ref C0) "__getattribute__" = some (some (.builtin "BaseException.__getattribute__")))
    (gg_0 : PySem.W.findIn K (.ref C0) "__getattr__" = some none)
    (hd_0 : PySem.W.hasDictIn K C0 = true)
    (ha_0 : PySem.W.findIn K (.ref C0) "__class__" = some (some (.builtin "object.__class__")))
    (hm_0 : PySem.W.mroIn K C0 (.type "object") = some true)
    (sD_0 : PySem.W.subIn K (.ref C0) (.ref D) = some true)
    (no_0 : PySem.W.kitOne K (.type "NoneType") (.ref C0) = some false)
    (hn : PySem.W.specialIn K (.builtin "object.__class__") "__get__" = some (some (.builtin "getset_descriptor.__get__")))
    (ht : PySem.W.takesIn K (.builtin "object.__class__") = some true)
    : ∃ (G : Glb) (fd : FuncData), (∀ (s : Shared) (u : Value), BindsTo s fd ⟨[u], []⟩ [("script", u)]) ∧ ∀ base : Heap, K.In base → base.Ns mainGlobals mg → FnG P w K mg base 9 fa fd ["script"] (spI K 1 (f_law G)) := by
  have e := hfa.symm.trans (PySem.W.mg_of X Gm a27)
  cases e
  refine ⟨⟨S3, D, fI, C0⟩, PySem.W.fnOf "law" "law" (defArgs st_law) (defBody st_law) (defScope st_law) .none kV27 dc27 pm27 an27 cd27 ct27, fun s u => .of_eq rfl, fun base kb nb => ?_⟩
  have W_SHAPES : Wrt K w S3 t_SHAPES := ⟨⟨_, _, ⟨ld_SHAPES, kl_SHAPES, lo_SHAPES⟩, (show Tab K [⟨hh5, .str "new" tk6, .str "rpp" tk7⟩, ⟨hh8, .str "copy" tk9, .str "rr" tk10⟩, ⟨hh11, .str "clear" tk12, .str "r" tk13⟩, ⟨hh14, .str "link" tk15, .str "rir" tk16⟩, ⟨hh17, .str "follow" tk18, .str "rri" tk19⟩, ⟨hh20, .str "write" tk21, .str "rin" tk22⟩, ⟨hh23, .str "read" tk24, .str "ri" tk25⟩, ⟨hh26, .str "same" tk27, .str "rr" tk28⟩, ⟨hh29, .str "shape" tk30, .str "r" tk31⟩, ⟨hh32, .str "weak" tk33, .str "ir" tk34⟩, ⟨hh35, .str "look" tk36, .str "ri" tk37⟩, ⟨hh38, .str "wish" tk39, .str "r" tk40⟩, ⟨hh41, .str "next" tk42, .str "r" tk43⟩, ⟨hh44, .str "gather" tk45, .str "" tk46⟩] t_SHAPES from ⟨_, _, _, rfl, ⟨_, rfl⟩, ⟨.str "rpp", ⟨_, rfl⟩, fun _ _ => rfl⟩, ⟨_, _, _, rfl, ⟨_, rfl⟩, ⟨.str "rr", ⟨_, rfl⟩, fun _ _ => rfl⟩, ⟨_, _, _, rfl, ⟨_, rfl⟩, ⟨.str "r", ⟨_, rfl⟩, fun _ _ => rfl⟩, ⟨_, _, _, rfl, ⟨_, rfl⟩, ⟨.str "rir", ⟨_, rfl⟩, fun _ _ => rfl⟩, ⟨_, _, _, rfl, ⟨_, rfl⟩, ⟨.str "rri", ⟨_, rfl⟩, fun _ _ => rfl⟩, ⟨_, _, _, rfl, ⟨_, rfl⟩, ⟨.str "rin", ⟨_, rfl⟩, fun _ _ => rfl⟩, ⟨_, _, _, rfl, ⟨_, rfl⟩, ⟨.str "ri", ⟨_, rfl⟩, fun _ _ => rfl⟩, ⟨_, _, _, rfl, ⟨_, rfl⟩, ⟨.str "rr", ⟨_, rfl⟩, fun _ _ => rfl⟩, ⟨_, _, _, rfl, ⟨_, rfl⟩, ⟨.str "r", ⟨_, rfl⟩, fun _ _ => rfl⟩, ⟨_, _, _, rfl, ⟨_, rfl⟩, ⟨.str "ir", ⟨_, rfl⟩, fun _ _ => rfl⟩, ⟨_, _, _, rfl, ⟨_, rfl⟩, ⟨.str "ri", ⟨_, rfl⟩, fun _ _ => rfl⟩, ⟨_, _, _, rfl, ⟨_, rfl⟩, ⟨.str "r", ⟨_, rfl⟩, fun _ _ => rfl⟩, ⟨_, _, _, rfl, ⟨_, rfl⟩, ⟨.str "r", ⟨_, rfl⟩, fun _ _ => rfl⟩, ⟨_, _, _, rfl, ⟨_, rfl⟩, ⟨.str "", ⟨_, rfl⟩, fun _ _ => rfl⟩, rfl⟩⟩⟩⟩⟩⟩⟩⟩⟩⟩⟩⟩⟩⟩)⟩, by decide⟩
  have EB : ErrB P K mg D fI := ⟨⟨_, _, _, _, _, _, _, _, _, _, _, _, _, _, _, _, _, _, _, _, _, _, _, _, _, _, _, _, _, _, _, _, _, _, _, _, _, lI, cI, lC, hV, hF, lL⟩, isD, opD, PySem.W.mg_none_of X Gm zS, tS, tI⟩
  have EC0 : ErrC K C0 D fI := ⟨⟨_, _, _, _, _, _, _, _, _, _, _, _, _, _, _, xL_0, by rfl⟩, inD_0, ve_0, su_0, sa_0, nv_0, ini_0, kC_0, exC_0, tyC_0⟩
  have XC0 : ExcC K C0 := ⟨ga_0, gg_0, exC_0, hd_0, ha_0, hn, ht, hm_0⟩
  have T : Txt P w K mg ⟨S3, D, fI, C0⟩ := {
    b_abs := PySem.W.mg_none_of X Gm z_abs
    b_all := PySem.W.mg_none_of X Gm z_all
    b_any := PySem.W.mg_none_of X Gm z_any
    b_bool := PySem.W.mg_none_of X Gm z_bool
    b_dict := PySem.W.mg_none_of X Gm z_dict
    b_enumerate := PySem.W.mg_none_of X Gm z_enumerate
    b_int := PySem.W.mg_none_of X Gm z_int
    b_isinstance := PySem.W.mg_none_of X Gm z_isinstance
    b_len := PySem.W.mg_none_of X Gm z_len
    b_list := PySem.W.mg_none_of X Gm z_list
    b_max := PySem.W.mg_none_of X Gm z_max
    b_min := PySem.W.mg_none_of X Gm z_min
    b_range := PySem.W.mg_none_of X Gm z_range
    b_repr := PySem.W.mg_none_of X Gm z_repr
    b_str := PySem.W.mg_none_of X Gm z_str
    b_tuple := PySem.W.mg_none_of X Gm z_tuple
    b_zip := PySem.W.mg_none_of X Gm z_zip
    k_MOST_ROOTS := ⟨_, .int 6, PySem.W.mg_of X Gm g_MOST_ROOTS, ⟨_, rfl⟩, fun _ _ => rfl⟩
    k_MOST_NUMBER := ⟨_, .int 1000, PySem.W.mg_of X Gm g_MOST_NUMBER, ⟨_, rfl⟩, fun _ _ => rfl⟩
    k_SHAPES := ⟨_, .ref S3, PySem.W.mg_of X Gm g_SHAPES, rfl, fun _ _ => rfl⟩
    k_OF_HEAP := ⟨_, .ref ad47, PySem.W.mg_of X Gm g_OF_HEAP, rfl, fun _ _ => ⟨ad47, [.ref ad51, .ref ad58, .ref ad65, .ref ad72], rfl, .inr ⟨_, _, _, lk79, rfl, rfl, (show 4 ≤ sizeLine by decide), .cons (rfl) (.cons (rfl) (.cons (rfl) (.cons (rfl) (.nil))))⟩, RUs.cons (⟨ad51, [.str "link", .str "link"], rfl, .inr ⟨_, _, _, lk57, rfl, rfl, (show 2 ≤ sizeLine by decide), .cons (⟨_, rfl⟩) (.cons (⟨_, rfl⟩) (.nil))⟩, RUs.cons (rfl) (RUs.cons (rfl) (RUs.nil))⟩) (RUs.cons (⟨ad58, [.str "link", .str "follow"], rfl, .inr ⟨_, _, _, lk64, rfl, rfl, (show 2 ≤ sizeLine by decide), .cons (⟨_, rfl⟩) (.cons (⟨_, rfl⟩) (.nil))⟩, RUs.cons (rfl) (RUs.cons (rfl) (RUs.nil))⟩) (RUs.cons (⟨ad65, [.str "write", .str "write"], rfl, .inr ⟨_, _, _, lk71, rfl, rfl, (show 2 ≤ sizeLine by decide), .cons (⟨_, rfl⟩) (.cons (⟨_, rfl⟩) (.nil))⟩, RUs.cons (rfl) (RUs.cons (rfl) (RUs.nil))⟩) (RUs.cons (⟨ad72, [.str "write", .str "read"], rfl, .inr ⟨_, _, _, lk78, rfl, rfl, (show 2 ≤ sizeLine by decide), .cons (⟨_, rfl⟩) (.cons (⟨_, rfl⟩) (.nil))⟩, RUs.cons (rfl) (RUs.cons (rfl) (RUs.nil))⟩) (RUs.nil))))⟩⟩
    k_LISTS := ⟨_, .ref ad80, PySem.W.mg_of X Gm g_LISTS, rfl, fun _ _ => ⟨ad80, [.str "wish", .str "next"], rfl, .inr ⟨_, _, _, lk86, rfl, rfl, (show 2 ≤ sizeLine by decide), .cons (⟨_, rfl⟩) (.cons (⟨_, rfl⟩) (.nil))⟩, RUs.cons (rfl) (RUs.cons (rfl) (RUs.nil))⟩⟩
    k_CHANGING := ⟨_, .ref ad87, PySem.W.mg_of X Gm g_CHANGING, rfl, fun _ _ => ⟨ad87, [.str "new", .str "copy", .str "clear", .str "follow", .str "look", .str "next"], rfl, .inr ⟨_, _, _, lk97, rfl, rfl, (show 6 ≤ sizeLine by decide), .cons (⟨_, rfl⟩) (.cons (⟨_, rfl⟩) (.cons (⟨_, rfl⟩) (.cons (⟨_, rfl⟩) (.cons (⟨_, rfl⟩) (.cons (⟨_, rfl⟩) (.nil))))))⟩, RUs.cons (rfl) (RUs.cons (rfl) (RUs.cons (rfl) (RUs.cons (rfl) (RUs.cons (rfl) (RUs.cons (rfl) (RUs.nil))))))⟩⟩
    tab := fun d t e => by
      unfold Glb.tab at e
      split at e
      · rename_i q
        cases e
        exact q ▸ W_SHAPES
      · cases e
    errB := EB
    e_HeapError := PySem.W.mg_of X Gm aD
    hit := fun C b e => by
      unfold Glb.hit at e
      split at e
      · rename_i q
        cases e
        subst q
        exact PySem.W.exm_ref exD hdD tyD sD_0
      · cases e
    errV := fun C e => by
      unfold Glb.isErr at e
      have q := of_decide_eq_true e
      subst q
      exact ⟨⟨ga_0, gg_0, exC_0, hd_0⟩, nv_0⟩
    e_InvalidDeed := PySem.W.mg_of X Gm aC_0
    err_InvalidDeed := EC0
    is_InvalidDeed := fun C b e => by
      unfold Glb.is_InvalidDeed at e
      split at e
      · rename_i q
        cases e
        subst q
        exact ⟨XC0, if_pos (beq_self_eq_true _)⟩
      · cases e
    no_InvalidDeed := no_0
  }
  have F0 := fun_mk (st := st_u_law_well) l0 c0 k0
  have b0 := F0.binds (ps := ["script", "k"]) fun _ _ _ _ _ _ us hl => match us, hl with | [_, _], _ => rfl
  have G0 := g_u_law_well (base := base) T  F0
  have C_u_law_well : Cal P w K mg base 1 "_law_well" 2 (f_u_law_well _) := ⟨_, _, _, G0, PySem.W.mg_of X Gm a0, k0, b0, rfl⟩
  have F1 := fun_mk (st := st_u_law_draw) l1 c1 k1
  have b1 := F1.binds (ps := ["well", "many"]) fun _ _ _ _ _ _ us hl => match us, hl with | [_, _], _ => rfl
  have G1 := g_u_law_draw (base := base) T  F1
  have C_u_law_draw : Cal P w K mg base 1 "_law_draw" 2 (f_u_law_draw _) := ⟨_, _, _, G1, PySem.W.mg_of X Gm a1, k1, b1, rfl⟩
  have F2 := fun_mk (st := st_u_law_deed) l2 c2 k2
  have b2 := F2.binds (ps := ["well", "roots"]) fun _ _ _ _ _ _ us hl => match us, hl with | [_, _], _ => rfl
  have G2 := g_u_law_deed (base := base) T C_u_law_draw F2
  have C_u_law_deed : Cal P w K mg base 2 "_law_deed" 2 (f_u_law_deed _) := ⟨_, _, _, G2, PySem.W.mg_of X Gm a2, k2, b2, rfl⟩
  have F3 := fun_mk (st := st_u_law_pair) l3 c3 k3
  have b3 := F3.binds (ps := ["well"]) fun _ _ _ _ _ _ us hl => match us, hl with | [_], _ => rfl
  have G3 := g_u_law_pair (base := base) T C_u_law_deed C_u_law_draw F3
  have C_u_law_pair : Cal P w K mg base 3 "_law_pair" 1 (f_u_law_pair _) := ⟨_, _, _, G3, PySem.W.mg_of X Gm a3, k3, b3, rfl⟩
  have F4 := fun_mk (st := st_u_law_names) l4 c4 k4
  have b4 := F4.binds (ps := ["deed"]) fun _ _ _ _ _ _ us hl => match us, hl with | [_], _ => rfl
  have G4 := g_u_law_names (base := base) T  F4
  have C_u_law_names : Cal P w K mg base 1 "_law_names" 1 (f_u_law_names _) := ⟨_, _, _, G4, PySem.W.mg_of X Gm a4, k4, b4, rfl⟩
  have F5 := fun_mk (st := st_u_law_clash) l5 c5 k5
  have b5 := F5.binds (ps := ["one", "other"]) fun _ _ _ _ _ _ us hl => match us, hl with | [_, _], _ => rfl
  have G5 := g_u_law_clash (base := base) T C_u_law_names F5
  have C_u_law_clash : Cal P w K mg base 2 "_law_clash" 2 (f_u_law_clash _) := ⟨_, _, _, G5, PySem.W.mg_of X Gm a5, k5, b5, rfl⟩
  have F6 := fun_mk (st := st_named_by) l6 c6 k6
  have b6 := F6.binds (ps := ["deed"]) fun _ _ _ _ _ _ us hl => match us, hl with | [_], _ => rfl
  have G6 := g_named_by (base := base) T  F6
  have C_named_by : Cal P w K mg base 1 "named_by" 1 (f_named_by _) := ⟨_, _, _, G6, PySem.W.mg_of X Gm a6, k6, b6, rfl⟩
  have F7 := fun_mk (st := st_changed_by) l7 c7 k7
  have b7 := F7.binds (ps := ["deed"]) fun _ _ _ _ _ _ us hl => match us, hl with | [_], _ => rfl
  have G7 := g_changed_by (base := base) T  F7
  have C_changed_by : Cal P w K mg base 1 "changed_by" 1 (f_changed_by _) := ⟨_, _, _, G7, PySem.W.mg_of X Gm a7, k7, b7, rfl⟩
  have F8 := fun_mk (st := st_do_clash) l8 c8 k8
  have b8 := F8.binds (ps := ["one", "other"]) fun _ _ _ _ _ _ us hl => match us, hl with | [_, _], _ => rfl
  have G8 := g_do_clash (base := base) T C_changed_by C_named_by F8
  have C_do_clash : Cal P w K mg base 2 "do_clash" 2 (f_do_clash _) := ⟨_, _, _, G8, PySem.W.mg_of X Gm a8, k8, b8, rfl⟩
  have F9 := fun_mk (st := st_is_word) l9 c9 k9
  have b9 := F9.binds (ps := ["value", "words"]) fun _ _ _ _ _ _ us hl => match us, hl with | [_, _], _ => rfl
  have G9 := g_is_word (base := base) T  F9
  have C_is_word : Cal P w K mg base 1 "is_word" 2 (f_is_word _) := ⟨_, _, _, G9, PySem.W.mg_of X Gm a9, k9, b9, rfl⟩
  have F10 := fun_mk (st := st_is_integer) l10 c10 k10
  have b10 := F10.binds (ps := ["value"]) fun _ _ _ _ _ _ us hl => match us, hl with | [_], _ => rfl
  have G10 := g_is_integer (base := base) T  F10
  have C_is_integer : Cal P w K mg base 1 "is_integer" 1 (f_is_integer _) := ⟨_, _, _, G10, PySem.W.mg_of X Gm a10, k10, b10, rfl⟩
  have F11 := fun_mk (st := st_is_between) l11 c11 k11
  have b11 := F11.binds (ps := ["value", "low", "high"]) fun _ _ _ _ _ _ us hl => match us, hl with | [_, _, _], _ => rfl
  have G11 := g_is_between (base := base) T C_is_integer F11
  have C_is_between : Cal P w K mg base 2 "is_between" 3 (f_is_between _) := ⟨_, _, _, G11, PySem.W.mg_of X Gm a11, k11, b11, rfl⟩
  have F12 := fun_mk (st := st_is_part) l12 c12 k12
  have b12 := F12.binds (ps := ["letter", "roots", "value"]) fun _ _ _ _ _ _ us hl => match us, hl with | [_, _, _], _ => rfl
  have G12 := g_is_part (base := base) T C_is_between F12
  have C_is_part : Cal P w K mg base 3 "is_part" 3 (f_is_part _) := ⟨_, _, _, G12, PySem.W.mg_of X Gm a12, k12, b12, rfl⟩
  have F13 := fun_mk (st := st_is_a_deed) l13 c13 k13
  have b13 := F13.binds (ps := ["roots", "value"]) fun _ _ _ _ _ _ us hl => match us, hl with | [_, _], _ => rfl
  have G13 := g_is_a_deed (base := base) T C_is_part C_is_word F13
  have C_is_a_deed : Cal P w K mg base 4 "is_a_deed" 2 (f_is_a_deed _) := ⟨_, _, _, G13, PySem.W.mg_of X Gm a13, k13, b13, rfl⟩
  have F14 := fun_mk (st := st_anew) l14 c14 k14
  have b14 := F14.binds (ps := ["value"]) fun _ _ _ _ _ _ us hl => match us, hl with | [_], _ => rfl
  have C_anew := fun j => g_anew (base := base) T F14 (PySem.W.mg_of X Gm a14) b14 j
  have F15 := fun_mk (st := st_clash) l15 c15 k15
  have b15 := F15.binds (ps := ["one", "other"]) fun _ _ _ _ _ _ us hl => match us, hl with | [_, _], _ => rfl
  have G15 := g_clash (base := base) T (C_anew 6) C_do_clash C_is_a_deed F15
  have C_clash : Cal P w K mg base 7 "clash" 2 (f_clash _) := ⟨_, _, _, G15, PySem.W.mg_of X Gm a15, k15, b15, rfl⟩
  have CK_clash : CalK P w K mg base 7 "clash" 2 ["other", "one"] [1, 0] (f_clash _) := ⟨_, _, _, G15, PySem.W.mg_of X Gm a15, k15, rfl, fun s us _ hl => match us, hl with | [_, _], _ => .of_eq rfl⟩
  have F16 := fun_mk (st := st_u_law_refused) l16 c16 k16
  have b16 := F16.binds (ps := ["one", "other", "due"]) fun _ _ _ _ _ _ us hl => match us, hl with | [_, _, _], _ => rfl
  have G16 := g_u_law_refused (base := base) T C_clash F16
  have C_u_law_refused : Cal P w K mg base 8 "_law_refused" 3 (f_u_law_refused _) := ⟨_, _, _, G16, PySem.W.mg_of X Gm a16, k16, b16, rfl⟩
  have F17 := fun_mk (st := st_u_law_store) l17 c17 k17
  have b17 := F17.binds (ps := ["roots"]) fun _ _ _ _ _ _ us hl => match us, hl with | [_], _ => rfl
  have G17 := g_u_law_store (base := base) T  F17
  have C_u_law_store : Cal P w K mg base 1 "_law_store" 1 (f_u_law_store _) := ⟨_, _, _, G17, PySem.W.mg_of X Gm a17, k17, b17, rfl⟩
  have F18 := fun_mk (st := st_u_law_led) l18 c18 k18
  have b18 := F18.binds (ps := ["store", "words"]) fun _ _ _ _ _ _ us hl => match us, hl with | [_, _], _ => rfl
  have G18 := g_u_law_led (base := base) T  F18
  have C_u_law_led : Cal P w K mg base 1 "_law_led" 2 (f_u_law_led _) := ⟨_, _, _, G18, PySem.W.mg_of X Gm a18, k18, b18, rfl⟩
  have F19 := fun_mk (st := st_u_law_picture) l19 c19 k19
  have b19 := F19.binds (ps := ["store"]) fun _ _ _ _ _ _ us hl => match us, hl with | [_], _ => rfl
  have G19 := g_u_law_picture (base := base) T C_u_law_led F19
  have C_u_law_picture : Cal P w K mg base 2 "_law_picture" 1 (f_u_law_picture _) := ⟨_, _, _, G19, PySem.W.mg_of X Gm a19, k19, b19, rfl⟩
  have F20 := fun_mk (st := st_u_law_part) l20 c20 k20
  have b20 := F20.binds (ps := ["store", "r", "i", "kind"]) fun _ _ _ _ _ _ us hl => match us, hl with | [_, _, _, _], _ => rfl
  have G20 := g_u_law_part (base := base) T  F20
  have C_u_law_part : Cal P w K mg base 1 "_law_part" 4 (f_u_law_part _) := ⟨_, _, _, G20, PySem.W.mg_of X Gm a20, k20, b20, rfl⟩
  have F21 := fun_mk (st := st_u_law_do_part) l21 c21 k21
  have b21 := F21.binds (ps := ["store", "deed"]) fun _ _ _ _ _ _ us hl => match us, hl with | [_, _], _ => rfl
  have G21 := g_u_law_do_part (base := base) T C_u_law_part F21
  have C_u_law_do_part : Cal P w K mg base 2 "_law_do_part" 2 (f_u_law_do_part _) := ⟨_, _, _, G21, PySem.W.mg_of X Gm a21, k21, b21, rfl⟩
  have F22 := fun_mk (st := st_u_law_gather) l22 c22 k22
  have b22 := F22.binds (ps := ["store"]) fun _ _ _ _ _ _ us hl => match us, hl with | [_], _ => rfl
  have G22 := g_u_law_gather (base := base) T C_u_law_led F22
  have C_u_law_gather : Cal P w K mg base 2 "_law_gather" 1 (f_u_law_gather _) := ⟨_, _, _, G22, PySem.W.mg_of X Gm a22, k22, b22, rfl⟩
  have F23 := fun_mk (st := st_u_law_wish) l23 c23 k23
  have b23 := F23.binds (ps := ["store", "r"]) fun _ _ _ _ _ _ us hl => match us, hl with | [_, _], _ => rfl
  have G23 := g_u_law_wish (base := base) T  F23
  have C_u_law_wish : Cal P w K mg base 1 "_law_wish" 2 (f_u_law_wish _) := ⟨_, _, _, G23, PySem.W.mg_of X Gm a23, k23, b23, rfl⟩
  have F24 := fun_mk (st := st_u_law_do) l24 c24 k24
  have b24 := F24.binds (ps := ["store", "deed"]) fun _ _ _ _ _ _ us hl => match us, hl with | [_, _], _ => rfl
  have G24 := g_u_law_do (base := base) T C_u_law_do_part C_u_law_gather C_u_law_wish F24
  have C_u_law_do : Cal P w K mg base 3 "_law_do" 2 (f_u_law_do _) := ⟨_, _, _, G24, PySem.W.mg_of X Gm a24, k24, b24, rfl⟩
  have F25 := fun_mk (st := st_u_law_run) l25 c25 k25
  have b25 := F25.binds (ps := ["program"]) fun _ _ _ _ _ _ us hl => match us, hl with | [_], _ => rfl
  have G25 := g_u_law_run (base := base) T C_u_law_do C_u_law_picture C_u_law_store F25
  have C_u_law_run : Cal P w K mg base 4 "_law_run" 1 (f_u_law_run _) := ⟨_, _, _, G25, PySem.W.mg_of X Gm a25, k25, b25, rfl⟩
  have F26 := fun_mk (st := st_u_law_is_commuting) l26 c26 k26
  have b26 := F26.binds (ps := ["well", "one", "other"]) fun _ _ _ _ _ _ us hl => match us, hl with | [_, _, _], _ => rfl
  have G26 := g_u_law_is_commuting (base := base) T C_u_law_deed C_u_law_draw C_u_law_run F26
  have C_u_law_is_commuting : Cal P w K mg base 5 "_law_is_commuting" 3 (f_u_law_is_commuting _) := ⟨_, _, _, G26, PySem.W.mg_of X Gm a26, k26, b26, rfl⟩
  have F27 := fun_mk (st := st_law) l27 c27 k27
  exact g_law (base := base) T C_u_law_clash C_u_law_draw C_u_law_is_commuting C_u_law_pair C_u_law_refused C_u_law_well C_clash CK_clash F27
end PD.K76

set_option Elab.async false
set_option maxRecDepth 100000
open PySem PySem.W PyProof.Rows in
set_option maxRecDepth 100000 in
set_option maxHeartbeats 0 in
theorem PySem.Challenge.cw_heapworks_k76_deeds_that_clash_holds : PySem.Challenge.rw_heapworks_k76_deeds_that_clash.Holds := by
  w_on; o_law; k_head; (case hw => w_witness2)
  k_fill
  refine PD.law_walk (l := PySem.Challenge.rw_heapworks_k76_deeds_that_clash) (n := 63) (k := 9) (x := "script") rfl (by decide) rfl ⟨rfl, by decide, by decide⟩ (fun w h Y => PySem.W.kIn_of Y) ?F
  case F =>
    intro w mg fa h KX G hmg
    suffices z : ∃ (G : PD.K76.Glb) (fd : FuncData), (∀ (s : Shared) (u : Value), BindsTo s fd ⟨[u], []⟩ [("script", u)]) ∧ ∀ base : Heap, _ → base.Ns mainGlobals mg → PD.FnG _ w _ mg base 9 fa fd ["script"] (PD.spI _ 1 (PD.K76.f_law G)) by
      obtain ⟨G, fd, hb, hg⟩ := z
      exact ⟨fd, PD.K76.f_law G, hb, fun ns hl hbits => PD.K76.law_true G ns, hg⟩
    refine' PD.K76.all_mk KX G hmg ?a0 ?l0 ?c0 ?k0 ?a1 ?l1 ?c1 ?k1 ?a2 ?l2 ?c2 ?k2 ?a3 ?l3 ?c3 ?k3 ?a4 ?l4 ?c4 ?k4 ?a5 ?l5 ?c5 ?k5 ?a6 ?l6 ?c6 ?k6 ?a7 ?l7 ?c7 ?k7 ?a8 ?l8 ?c8 ?k8 ?a9 ?l9 ?c9 ?k9 ?a10 ?l10 ?c10 ?k10 ?a11 ?l11 ?c11 ?k11 ?a12 ?l12 ?c12 ?k12 ?a13 ?l13 ?c13 ?k13 ?a14 ?l14 ?c14 ?k14 ?a15 ?l15 ?c15 ?k15 ?a16 ?l16 ?c16 ?k16 ?a17 ?l17 ?c17 ?k17 ?a18 ?l18 ?c18 ?k18 ?a19 ?l19 ?c19 ?k19 ?a20 ?l20 ?c20 ?k20 ?a21 ?l21 ?c21 ?k21 ?a22 ?l22 ?c22 ?k22 ?a23 ?l23 ?c23 ?k23 ?a24 ?l24 ?c24 ?k24 ?a25 ?l25 ?c25 ?k25 ?a26 ?l26 ?c26 ?k26 ?a27 ?l27 ?c27 ?k27 ?z_abs ?z_all ?z_any ?z_bool ?z_dict ?z_enumerate ?z_int ?z_isinstance ?z_len ?z_list ?z_max ?z_min ?z_range ?z_repr ?z_str ?z_tuple ?z_zip ?g_MOST_ROOTS ?g_MOST_NUMBER ?g_SHAPES ?ld_SHAPES ?kl_SHAPES ?lo_SHAPES ?g_OF_HEAP ?lk79 ?lk57 ?lk64 ?lk71 ?lk78 ?g_LISTS ?lk86 ?g_CHANGING ?lk97 ?aD ?iD ?lI ?cI ?lC ?hV ?hF ?lL ?isD ?opD ?zS ?tS ?tI ?exD ?hdD ?tyD ?aC_0 ?xL_0 ?inD_0 ?ve_0 ?su_0 ?sa_0 ?nv_0 ?ini_0 ?kC_0 ?exC_0 ?tyC_0 ?ga_0 ?gg_0 ?hd_0 ?ha_0 ?hm_0 ?sD_0 ?no_0 ?hn ?ht
    (case a0 => k_is)
    (case l0 => k_is)
    (case c0 => k_is)
    (case k0 => k_is)
    (case a1 => k_is)
    (case l1 => k_is)
    (case c1 => k_is)
    (case k1 => k_is)
    (case a2 => k_is)
    (case l2 => k_is)
    (case c2 => k_is)
    (case k2 => k_is)
    (case a3 => k_is)
    (case l3 => k_is)
    (case c3 => k_is)
    (case k3 => k_is)
    (case a4 => k_is)
    (case l4 => k_is)
    (case c4 => k_is)
    (case k4 => k_is)
    (case a5 => k_is)
    (case l5 => k_is)
    (case c5 => k_is)
    (case k5 => k_is)
    (case a6 => k_is)
    (case l6 => k_is)
    (case c6 => k_is)
    (case k6 => k_is)
    (case a7 => k_is)
    (case l7 => k_is)
    (case c7 => k_is)
    (case k7 => k_is)
    (case a8 => k_is)
    (case l8 => k_is)
    (case c8 => k_is)
    (case k8 => k_is)
    (case a9 => k_is)
    (case l9 => k_is)
    (case c9 => k_is)
    (case k9 => k_is)
    (case a10 => k_is)
    (case l10 => k_is)
    (case c10 => k_is)
    (case k10 => k_is)
    (case a11 => k_is)
    (case l11 => k_is)
    (case c11 => k_is)
    (case k11 => k_is)
    (case a12 => k_is)
    (case l12 => k_is)
    (case c12 => k_is)
    (case k12 => k_is)
    (case a13 => k_is)
    (case l13 => k_is)
    (case c13 => k_is)
    (case k13 => k_is)
    (case a14 => k_is)
    (case l14 => k_is)
    (case c14 => k_is)
    (case k14 => k_is)
    (case a15 => k_is)
    (case l15 => k_is)
    (case c15 => k_is)
    (case k15 => k_is)
    (case a16 => k_is)
    (case l16 => k_is)
    (case c16 => k_is)
    (case k16 => k_is)
    (case a17 => k_is)
    (case l17 => k_is)
    (case c17 => k_is)
    (case k17 => k_is)
    (case a18 => k_is)
    (case l18 => k_is)
    (case c18 => k_is)
    (case k18 => k_is)
    (case a19 => k_is)
    (case l19 => k_is)
    (case c19 => k_is)
    (case k19 => k_is)
    (case a20 => k_is)
    (case l20 => k_is)
    (case c20 => k_is)
    (case k20 => k_is)
    (case a21 => k_is)
    (case l21 => k_is)
    (case c21 => k_is)
    (case k21 => k_is)
    (case a22 => k_is)
    (case l22 => k_is)
    (case c22 => k_is)
    (case k22 => k_is)
    (case a23 => k_is)
    (case l23 => k_is)
    (case c23 => k_is)
    (case k23 => k_is)
    (case a24 => k_is)
    (case l24 => k_is)
    (case c24 => k_is)
    (case k24 => k_is)
    (case a25 => k_is)
    (case l25 => k_is)
    (case c25 => k_is)
    (case k25 => k_is)
    (case a26 => k_is)
    (case l26 => k_is)
    (case c26 => k_is)
    (case k26 => k_is)
    (case a27 => k_is)
    (case l27 => k_is)
    (case c27 => k_is)
    (case k27 => k_is)
    (case z_abs => k_is)
    (case z_all => k_is)
    (case z_any => k_is)
    (case z_bool => k_is)
    (case z_dict => k_is)
    (case z_enumerate => k_is)
    (case z_int => k_is)
    (case z_isinstance => k_is)
    (case z_len => k_is)
    (case z_list => k_is)
    (case z_max => k_is)
    (case z_min => k_is)
    (case z_range => k_is)
    (case z_repr => k_is)
    (case z_str => k_is)
    (case z_tuple => k_is)
    (case z_zip => k_is)
    (case g_MOST_ROOTS => k_is)
    (case g_MOST_NUMBER => k_is)
    (case g_SHAPES => k_is)
    (case ld_SHAPES => k_is)
    (case kl_SHAPES => k_keys)
    (case lo_SHAPES => decide)
    (case g_OF_HEAP => k_is)
    (case lk79 => k_is)
    (case lk57 => k_is)
    (case lk64 => k_is)
    (case lk71 => k_is)
    (case lk78 => k_is)
    (case g_LISTS => k_is)
    (case lk86 => k_is)
    (case g_CHANGING => k_is)
    (case lk97 => k_is)
    (case aD => k_is)
    (case iD => k_is)
    (case lI => k_is)
    (case cI => k_is)
    (case lC => k_is)
    (case hV => rfl)
    (case hF => first | rfl | decide +kernel)
    (case lL => k_is)
    (case isD => k_is)
    (case opD => k_is)
    (case zS => k_is)
    (case tS => first | rfl | decide +kernel)
    (case tI => k_is)
    (case exD => k_is)
    (case hdD => k_is)
    (case tyD => k_is)
    (case aC_0 => k_is)
    (case xL_0 => k_is)
    (case inD_0 => k_is)
    (case ve_0 => k_is)
    (case su_0 => ks_is)
    (case sa_0 => k_is)
    (case nv_0 => k_is)
    (case ini_0 => k_is)
    (case kC_0 => k_is)
    (case exC_0 => k_is)
    (case tyC_0 => k_is)
    (case ga_0 => k_is)
    (case gg_0 => k_is)
    (case hd_0 => k_is)
    (case ha_0 => k_is)
    (case hm_0 => k_is)
    (case sD_0 => k_is)
    (case no_0 => kit_is)
    (case hn => k_is)
    (case ht => k_is)
