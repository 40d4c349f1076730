import PyProof.Rows.All
import Wide.All
import OpenK.AllK
import Wide.FinOn
import HandS.ForMost
import HandS.ForExc
import HandS.Star
import HandS.Deep
import HandS.Property
import HandS.ClsMeth
import HandS.Wide
import HandS.Zip
import HandS.StrMore
import KE.Datum
import HandS.TupLe
import HandS.Walk
import HandS.SetKeys
import HandS.Small
import HandS.Defaults
import HandS.ExcCtx
import HandS.IterNext
import HandS.OwnIter
import HandS.IsInst
import HandS.ExcValue
import KE.KOpsOwn
import HandS.HeadHook2
import HandS.Codes
import HandS.Words
import PySem.Challenge.RW_laterwebs_k03_whole_webs_grow
import HandS.Exc
import HandS.TryMany
import HandS.ExcInit
import KE.KExcSuper
import KE.KSuper
import HandS.Nested
import HandS.ExcField
import HandS.ExcIs
import KE.KExcIs
import HandS.HeadHook1
import HandS.HeadEnd
import HandS.Text
import HandS.Style
import HandS.Set
import HandS.SetBool
import HandS.SetTxt0
import HandS.More
import HandS.Strs
import PyProof.Rows.SetFrom
import HandS.TupAny
import HandS.RaiseMore
import HandS.MethStar
import KE.KStateDown
import HandS.Head0
import HandS.Head1
import HandS.Head2
import PyProof.Rows.Range3
import HandS.Iter
import HandS.FStr
import HandS.List
import HandS.Conv
import PyProof.ListStr
import HandS.GenList
import KE.KCallOwn
import HandS.HotCalls
import Lean
set_option Elab.async false
set_option linter.all false
set_option maxRecDepth 100000
set_option maxHeartbeats 0
/-! The tree layer. D: data as trees (tuples by value), MO: what stands at an address over trees, AH: the heap seen through owned abstract objects. -/
namespace TL
open PySem PySem.Spec PyProof.Rows L2

/-- a value as a tree: tuples by value, all other objects by address -/
inductive D where
  | non | bl (b : Bool) | int (i : Int) | str (s : Str) | tup (xs : List D) | ref (a : Addr) | ty (n : String)

variable {K : PySem.W.Frag}

/-- v is the tree d at H -/
inductive Rp (K : PySem.W.Frag) (H : Hp) : V → D → Prop where
  | non : Rp K H .non .non
  | bl {b : Bool} : Rp K H (.bl b) (.bl b)
  | int {i : Int} : Rp K H (.int i) (.int i)
  | str {s : Str} : Rp K H (.str s) (.str s)
  | ref {a : Addr} : Rp K H (.ref a) (.ref a)
  | ty {n : String} : Rp K H (.ty n) (.ty n)
  | tup {a : Addr} {vs : List V} {ds : List D} : SqT K H a vs → vs.length = ds.length → (∀ (i : Nat) v d, vs[i]? = some v → ds[i]? = some d → Rp K H v d) → Rp K H (.ref a) (.tup ds)

abbrev Rps (K : PySem.W.Frag) (H : Hp) : List V → List D → Prop := Paired (Rp K H)

/-- tuples stand -/
def Kp (K : PySem.W.Frag) (H H' : Hp) : Prop := ∀ a xs, SqT K H a xs → SqT K H' a xs
theorem Kp.refl (H : Hp) : Kp K H H := fun _ _ h => h
theorem Kp.trans {H H1 H2 : Hp} (a : Kp K H H1) (b : Kp K H1 H2) : Kp K H H2 := fun x xs h => b x xs (a x xs h)
theorem Rp.keep {H H' : Hp} {v : V} {d : D} (r : Rp K H v d) (k : Kp K H H') : Rp K H' v d := by
  induction r with
  | non => exact .non
  | bl => exact .bl
  | int => exact .int
  | str => exact .str
  | ref => exact .ref
  | ty => exact .ty
  | tup h hl _ ih => exact .tup (k _ _ h) hl ih
theorem Rps.keep {H H' : Hp} {vs : List V} {ds : List D} (r : Rps K H vs ds) (k : Kp K H H') : Rps K H' vs ds := Paired.mapP r fun _ _ q => q.keep k
theorem Paired.at_ {α β : Type} {F : α → β → Prop} : ∀ {xs : List α} {ys : List β}, Paired F xs ys → ∀ (i : Nat) x y, xs[i]? = some x → ys[i]? = some y → F x y
  | _, _, .nil, _, _, _, h, _ => by simp at h
  | _, _, .cons r _, 0, _, _, h, h' => by simp at h h'; subst h; subst h'; exact r
  | _, _, .cons _ t, i + 1, x, y, h, h' => Paired.at_ t i x y (by simpa using h) (by simpa using h')
theorem Paired.of_at {α β : Type} {F : α → β → Prop} : ∀ {xs : List α} {ys : List β}, xs.length = ys.length → (∀ (i : Nat) x y, xs[i]? = some x → ys[i]? = some y → F x y) → Paired F xs ys
  | [], [], _, _ => .nil
  | [], _ :: _, h, _ => by simp at h
  | _ :: _, [], h, _ => by simp at h
  | x :: xs, y :: ys, h, k => .cons (k 0 x y rfl rfl) (Paired.of_at (by simpa using h) fun i a b h1 h2 => k (i + 1) a b (by simpa using h1) (by simpa using h2))
theorem Paired.get1 {α β : Type} {F : α → β → Prop} : ∀ {xs : List α} {ys : List β} {i : Nat} {y : β}, Paired F xs ys → ys[i]? = some y → ∃ x, xs[i]? = some x ∧ F x y
  | _, _, i, _, .nil, h => by simp at h
  | _, _, 0, _, .cons r _, h => by simp at h; subst h; exact ⟨_, rfl, r⟩
  | _, _, i + 1, y, .cons _ t, h => by
    obtain ⟨x, h1, h2⟩ := Paired.get1 (i := i) (y := y) t (by simpa using h)
    exact ⟨x, by simpa using h1, h2⟩
theorem Paired.get0 {α β : Type} {F : α → β → Prop} : ∀ {xs : List α} {ys : List β} {i : Nat} {x : α}, Paired F xs ys → xs[i]? = some x → ∃ y, ys[i]? = some y ∧ F x y
  | _, _, i, _, .nil, h => by simp at h
  | _, _, 0, _, .cons r _, h => by simp at h; subst h; exact ⟨_, rfl, r⟩
  | _, _, i + 1, y, .cons _ t, h => by
    obtain ⟨x, h1, h2⟩ := Paired.get0 (i := i) (x := y) t (by simpa using h)
    exact ⟨x, by simpa using h1, h2⟩
theorem Paired.app {α β : Type} {F : α → β → Prop} : ∀ {xs xs' : List α} {ys ys' : List β}, Paired F xs ys → Paired F xs' ys' → Paired F (xs ++ xs') (ys ++ ys')
  | _, _, _, _, .nil, s => s
  | _, _, _, _, .cons r t, s => .cons r (Paired.app t s)
theorem Paired.take_ {α β : Type} {F : α → β → Prop} : ∀ {xs : List α} {ys : List β} (n : Nat), Paired F xs ys → Paired F (xs.take n) (ys.take n)
  | _, _, 0, _ => .nil
  | _, _, _ + 1, .nil => .nil
  | _, _, n + 1, .cons r t => .cons r (Paired.take_ n t)
theorem Paired.drop_ {α β : Type} {F : α → β → Prop} : ∀ {xs : List α} {ys : List β} (n : Nat), Paired F xs ys → Paired F (xs.drop n) (ys.drop n)
  | _, _, 0, r => r
  | _, _, _ + 1, .nil => .nil
  | _, _, n + 1, .cons _ t => Paired.drop_ n t
theorem Paired.split_ {α β : Type} {F : α → β → Prop} : ∀ {ys1 ys2 : List β} {xs : List α}, Paired F xs (ys1 ++ ys2) → ∃ x1 x2, xs = x1 ++ x2 ∧ Paired F x1 ys1 ∧ Paired F x2 ys2
  | [], _, xs, r => ⟨[], xs, rfl, .nil, r⟩
  | _ :: ys1, ys2, _, .cons a r => by
    obtain ⟨u1, u2, e, r1, r2⟩ := Paired.split_ (ys1 := ys1) (ys2 := ys2) r
    exact ⟨_ :: u1, u2, by rw [e]; rfl, .cons a r1, r2⟩
theorem Rp.tups {H : Hp} {a : Addr} {vs : List V} {ds : List D} (h : SqT K H a vs) (r : Rps K H vs ds) : Rp K H (.ref a) (.tup ds) :=
  .tup h (Paired.length r) (Paired.at_ r)
theorem Rp.tup_inv {H : Hp} {v : V} {ds : List D} (r : Rp K H v (.tup ds)) : ∃ a vs, v = .ref a ∧ SqT K H a vs ∧ Rps K H vs ds := by
  cases r with
  | tup h hl k => exact ⟨_, _, rfl, h, Paired.of_at hl k⟩

/-- what stands at an address, over trees -/
inductive MO where
  | lst (xs : List D)
  | dK (kvs : List (Key × D))
  | dT (kvs : List (List Key × D))
  | ins (C : Addr) (fs : List (Str × D))
  | ro (xs : List D)
  | raw (o : HO)
  | xd (fs : List (Str × D))
  | roK (o : Obj) (us : List (Key × V)) (kvs : List (Key × D))

abbrev KVr (K : PySem.W.Frag) (H : Hp) {κ : Type} : List (κ × V) → List (κ × D) → Prop := Paired fun (p : κ × V) (q : κ × D) => p.1 = q.1 ∧ Rp K H p.2 q.2

def MOk (K : PySem.W.Frag) (H : Hp) (a : Addr) : MO → Prop
  | .lst ds => ∃ vs, H a = some (.lst vs) ∧ Rps K H vs ds
  | .dK kvs => ∃ us, H a = some (.dK us) ∧ KVr K H us kvs
  | .dT kvs => ∃ us, H a = some (.dT us) ∧ KVr K H us kvs
  | .ins C fs => ∃ dx gs, H a = some (.ins C dx gs) ∧ KVr K H gs fs
  | .ro ds => ∃ vs o, H a = some (.frz o (.lst vs)) ∧ Rps K H vs ds
  | .raw o => H a = some o
  | .xd fs => ∃ gs, H a = some (.xd gs) ∧ KVr K H gs fs
  | .roK o us kvs => H a = some (.frz o (.dK us)) ∧ KVr K H us kvs
theorem KVr.keep {H H' : Hp} {κ : Type} {us : List (κ × V)} {kvs : List (κ × D)} (r : KVr K H us kvs) (k : Kp K H H') : KVr K H' us kvs := Paired.mapP r fun _ _ q => ⟨q.1, q.2.keep k⟩
theorem MOk.keep {H H' : Hp} {a : Addr} {o : MO} (m : MOk K H a o) (k : Kp K H H') (e : H' a = H a) : MOk K H' a o := by
  cases o with
  | lst ds => obtain ⟨vs, h, r⟩ := m; exact ⟨vs, e.trans h, r.keep k⟩
  | dK kvs => obtain ⟨us, h, r⟩ := m; exact ⟨us, e.trans h, KVr.keep r k⟩
  | dT kvs => obtain ⟨us, h, r⟩ := m; exact ⟨us, e.trans h, KVr.keep r k⟩
  | ins C fs => obtain ⟨dx, gs, h, r⟩ := m; exact ⟨dx, gs, e.trans h, KVr.keep r k⟩
  | ro ds => obtain ⟨vs, ob, h, r⟩ := m; exact ⟨vs, ob, e.trans h, r.keep k⟩
  | raw u => exact e.trans (show H a = some u from m)
  | xd fs => obtain ⟨gs, h, r⟩ := m; exact ⟨gs, e.trans h, KVr.keep r k⟩
  | roK o us kvs => exact ⟨e.trans m.1, KVr.keep m.2 k⟩
theorem MOk.there {H : Hp} {a : Addr} {o : MO} (m : MOk K H a o) : ∃ u, H a = some u := by
  cases o with
  | lst ds => obtain ⟨vs, h, r⟩ := m; exact ⟨_, h⟩
  | dK kvs => obtain ⟨us, h, r⟩ := m; exact ⟨_, h⟩
  | dT kvs => obtain ⟨us, h, r⟩ := m; exact ⟨_, h⟩
  | ins C fs => obtain ⟨dx, gs, h, r⟩ := m; exact ⟨_, h⟩
  | ro ds => obtain ⟨vs, ob, h, r⟩ := m; exact ⟨_, h⟩
  | raw u => exact ⟨u, m⟩
  | xd fs => obtain ⟨gs, h, r⟩ := m; exact ⟨_, h⟩
  | roK o us kvs => exact ⟨_, m.1⟩

abbrev MH := Addr → Option MO
/-- an object with what it owns -/
inductive AO where
  | prim (o : MO)
  | abs (R : MH → Prop)
abbrev AH := Addr → Option AO
def one (a : Addr) (o : MO) : MH := fun b => if b = a then some o else none
def Own : AO → Addr → MH → Prop
  | .prim o, a, m => m = one a o
  | .abs R, a, m => R m ∧ ∃ u, m a = some u
/-- the heap H is seen as A -/
def HR (K : PySem.W.Frag) (A : AH) (H : Hp) : Prop :=
  ∃ F : Addr → MH, (∀ a o, A a = some o → Own o a (F a)) ∧ (∀ a b x u, (A a).isSome = true → (A b).isSome = true → a ≠ b → F a x = some u → F b x = none) ∧ (∀ a x u, (A a).isSome = true → F a x = some u → MOk K H x u)

def updA (A : AH) (a : Addr) (o : AO) : AH := fun b => if b = a then some o else A b
theorem updA_same {A : AH} {a : Addr} {o : AO} : updA A a o a = some o := by unfold updA; rw [if_pos rfl]
theorem updA_ne {A : AH} {a b : Addr} {o : AO} (h : b ≠ a) : updA A a o b = A b := by unfold updA; rw [if_neg h]
theorem updA_updA {A : AH} {a : Addr} {o u : AO} : updA (updA A a o) a u = updA A a u := by
  funext b; unfold updA; split <;> rfl
theorem updA_comm {A : AH} {a b : Addr} {o u : AO} (h : a ≠ b) : updA (updA A a o) b u = updA (updA A b u) a o := by
  funext c; unfold updA
  by_cases h1 : c = a
  · subst h1; rw [if_neg h, if_pos rfl, if_pos rfl]
  · rw [if_neg h1]; split <;> simp [h1]
def Sub (A A' : AH) : Prop := ∀ a o, A a = some o → A' a = some o
theorem Sub.refl (A : AH) : Sub A A := fun _ _ h => h
theorem Sub.trans {A B C : AH} (h : Sub A B) (k : Sub B C) : Sub A C := fun a o e => k a o (h a o e)
theorem Sub.upd {A B : AH} {p : Addr} {o : AO} (h : Sub A B) (n : A p = none) : Sub A (updA B p o) := fun a u e => by
  rw [updA_ne (fun z => by rw [z, n] at e; cases e)]; exact h a u e
theorem Sub.none {A B : AH} {p : Addr} (h : Sub A B) (n : B p = none) : A p = none := by
  cases e : A p with
  | none => rfl
  | some o => rw [h p o e] at n; cases n
theorem isSome_of {α : Type} {x : Option α} {y : α} (h : x = some y) : x.isSome = true := by rw [h]; rfl
theorem isSome_get {α : Type} {x : Option α} (h : x.isSome = true) : ∃ y, x = some y := Option.isSome_iff_exists.mp h

/-- another footprint at one place -/
def putM (F : Addr → MH) (p : Addr) (m : MH) : Addr → MH := fun a => if a = p then m else F a
theorem putM_same {F : Addr → MH} {p : Addr} {m : MH} : putM F p m p = m := by unfold putM; rw [if_pos rfl]
theorem putM_ne {F : Addr → MH} {p a : Addr} {m : MH} (h : a ≠ p) : putM F p m a = F a := by unfold putM; rw [if_neg h]
def expl (F : Addr → MH) (a : Addr) : Addr → MH := fun b => match F a b with
  | some u => one b u
  | none => F b
theorem expl_some {F : Addr → MH} {a b : Addr} {u : MO} (h : F a b = some u) : expl F a b = one b u := by unfold expl; rw [h]
theorem expl_none {F : Addr → MH} {a b : Addr} (h : F a b = none) : expl F a b = F b := by unfold expl; rw [h]
theorem one_same {a : Addr} {o : MO} : one a o a = some o := by unfold one; rw [if_pos rfl]
theorem one_ne {a b : Addr} {o : MO} (h : b ≠ a) : one a o b = none := by unfold one; rw [if_neg h]
theorem one_at {a b : Addr} {o u : MO} (h : one a o b = some u) : b = a ∧ u = o := by
  by_cases z : b = a
  · subst z; rw [one_same] at h; exact ⟨rfl, (Option.some.inj h).symm⟩
  · rw [one_ne z] at h; cases h

/-- fewer objects are seen -/
theorem HR.sub {A A' : AH} {H : Hp} (h : HR K A H) (k : Sub A' A) : HR K A' H := by
  obtain ⟨F, h1, h2, h3⟩ := h
  have ks : ∀ a, (A' a).isSome = true → (A a).isSome = true := fun a ha => by
    obtain ⟨o, e⟩ := isSome_get ha
    exact isSome_of (k a o e)
  exact ⟨F, fun a o e => h1 a o (k a o e), fun a b x u ha hb => h2 a b x u (ks a ha) (ks b hb), fun a x u ha => h3 a x u (ks a ha)⟩
theorem HR.at_ {A : AH} {H : Hp} {a : Addr} {o : MO} (h : HR K A H) (e : A a = some (.prim o)) : MOk K H a o := by
  obtain ⟨F, h1, h2, h3⟩ := h
  have q : F a = one a o := h1 a _ e
  exact h3 a a o (isSome_of e) (by rw [q]; unfold one; rw [if_pos rfl])
/-- the heap has changed where nothing is seen -/
theorem HR.stay {A : AH} {H H' : Hp} (h : HR K A H) (k : Kp K H H') (e : ∀ a u, H a = some u → H' a = some u) : HR K A H' := by
  obtain ⟨F, h1, h2, h3⟩ := h
  refine ⟨F, h1, h2, fun a x u ha hx => ?_⟩
  have m := h3 a x u ha hx
  obtain ⟨w, hw⟩ := m.there
  exact m.keep k ((e x w hw).trans hw.symm)
theorem HR.free {A : AH} {H : Hp} {p : Addr} (h : HR K A H) (n : H p = none) : A p = none := by
  cases e : A p with
  | none => rfl
  | some o =>
    obtain ⟨F, h1, h2, h3⟩ := h
    have q : ∃ u, F p p = some u := by
      cases o with
      | prim u =>
        have q : F p = one p u := h1 p _ e
        exact ⟨u, by rw [q]; unfold one; rw [if_pos rfl]⟩
      | abs R => exact (h1 p _ e).2
    obtain ⟨u, hu⟩ := q
    obtain ⟨w, hw⟩ := (h3 p p u (isSome_of e) hu).there
    rw [hw] at n; cases n
/-- a new object is laid -/
theorem HR.put {A : AH} {H H' : Hp} {p : Addr} {o : MO} {F : Addr → MH} (h1 : ∀ a u, A a = some u → Own u a (F a)) (h2 : ∀ a b x u, (A a).isSome = true → (A b).isSome = true → a ≠ b → F a x = some u → F b x = none)
    (h3 : ∀ a x u, (A a).isSome = true → F a x = some u → MOk K H x u) (nF : ∀ a, a ≠ p → (A a).isSome = true → F a p = none) (k : Kp K H H') (e : ∀ a u, a ≠ p → H a = some u → H' a = some u) (m : MOk K H' p o) : HR K (updA A p (.prim o)) H' := by
  have old : ∀ c, c ≠ p → (updA A p (.prim o) c).isSome = true → (A c).isSome = true := fun c hc z => by rw [updA_ne hc] at z; exact z
  refine ⟨putM F p (one p o), fun a u hu => ?_, fun a b x u ha hb hab hx => ?_, fun a x u ha hx => ?_⟩
  · by_cases q : a = p
    · subst q
      rw [updA_same] at hu; cases hu
      rw [putM_same]; exact rfl
    · rw [updA_ne q] at hu
      rw [putM_ne q]; exact h1 a u hu
  · by_cases q : a = p
    · subst q
      rw [putM_same] at hx
      obtain ⟨rfl, _⟩ := one_at hx
      rw [putM_ne (Ne.symm hab)]
      exact nF b (Ne.symm hab) (old b (Ne.symm hab) hb)
    · rw [putM_ne q] at hx
      by_cases q2 : b = p
      · subst q2
        rw [putM_same]
        refine one_ne fun z => ?_
        subst z
        rw [nF a q (old a q ha)] at hx; cases hx
      · rw [putM_ne q2]
        exact h2 a b x u (old a q ha) (old b q2 hb) hab hx
  · by_cases q : a = p
    · subst q
      rw [putM_same] at hx
      obtain ⟨rfl, rfl⟩ := one_at hx
      exact m
    · rw [putM_ne q] at hx
      have ha' := old a q ha
      have mm := h3 a x u ha' hx
      obtain ⟨w, hw⟩ := mm.there
      have xp : x ≠ p := fun z => by rw [z, nF a q ha'] at hx; cases hx
      exact mm.keep k ((e x w xp hw).trans hw.symm)
theorem HR.new {A : AH} {H H' : Hp} {p : Addr} {o : MO} (h : HR K A H) (n : H p = none) (k : Kp K H H') (e : ∀ a u, H a = some u → H' a = some u) (m : MOk K H' p o) : HR K (updA A p (.prim o)) H' := by
  obtain ⟨F, h1, h2, h3⟩ := h
  refine HR.put h1 h2 h3 (fun a _ ha => ?_) k (fun a u _ => e a u) m
  cases q : F a p with
  | none => rfl
  | some u =>
    obtain ⟨w, hw⟩ := (h3 a p u ha q).there
    rw [n] at hw; cases hw
/-- an object is written -/
theorem HR.write {A : AH} {H H' : Hp} {p : Addr} {o o' : MO} (h : HR K A H) (hp : A p = some (.prim o)) (k : Kp K H H') (e : ∀ a, a ≠ p → H' a = H a) (m : MOk K H' p o') : HR K (updA A p (.prim o')) H' := by
  obtain ⟨F, h1, h2, h3⟩ := h
  have fp : F p = one p o := h1 p _ hp
  have fpp : F p p = some o := by rw [fp]; exact one_same
  exact HR.put h1 h2 h3 (fun a hne ha => h2 p a p o (isSome_of hp) ha (Ne.symm hne) fpp) k (fun a u hne hu => (e a hne).trans hu) m
/-- an abstract object is opened: what it owns is seen -/
def over (A : AH) (m : MH) : AH := fun b => match m b with
  | some u => some (.prim u)
  | none => A b
theorem over_some {A : AH} {m : MH} {b : Addr} {u : MO} (h : m b = some u) : over A m b = some (.prim u) := by unfold over; rw [h]
theorem over_none {A : AH} {m : MH} {b : Addr} (h : m b = none) : over A m b = A b := by unfold over; rw [h]
theorem HR.open_ {A : AH} {H : Hp} {a : Addr} {R : MH → Prop} (h : HR K A H) (e : A a = some (.abs R)) : ∃ m : MH, R m ∧ (∃ u, m a = some u) ∧ (∀ b u, b ≠ a → m b = some u → A b = none) ∧ HR K (over A m) H := by
  obtain ⟨F, h1, h2, h3⟩ := h
  obtain ⟨hr, ha⟩ := h1 a _ e
  have sa : (A a).isSome = true := isSome_of e
  have self : ∀ b, (A b).isSome = true → ∃ w, F b b = some w := fun b hb => by
    obtain ⟨o, ho⟩ := isSome_get hb
    cases o with
    | prim v =>
      have q : F b = one b v := h1 b _ ho
      exact ⟨v, by rw [q]; exact one_same⟩
    | abs R' => exact (h1 b _ ho).2
  have none_ : ∀ b u, b ≠ a → F a b = some u → A b = none := fun b u hb hu => by
    cases q : A b with
    | none => rfl
    | some o =>
      obtain ⟨w, hw⟩ := self b (isSome_of q)
      have z := h2 a b b u sa (isSome_of q) (Ne.symm hb) hu
      rw [z] at hw; cases hw
  have old : ∀ d, F a d = none → (over A (F a) d).isSome = true → (A d).isSome = true ∧ d ≠ a := fun d hd z => by
    rw [over_none hd] at z
    refine ⟨z, fun y => ?_⟩
    subst y
    obtain ⟨u, hu⟩ := ha
    rw [hd] at hu; cases hu
  refine ⟨F a, hr, ha, none_, expl F a, fun b o hb => ?_, fun b c x u hb hc hbc hx => ?_, fun b x u hb hx => ?_⟩
  · cases q : F a b with
    | some u =>
      rw [over_some q] at hb
      cases hb
      rw [expl_some q]; exact rfl
    | none =>
      rw [over_none q] at hb
      rw [expl_none q]; exact h1 b o hb
  · cases q : F a b with
    | some v =>
      rw [expl_some q] at hx
      obtain ⟨rfl, rfl⟩ := one_at hx
      cases q2 : F a c with
      | some v2 => rw [expl_some q2]; exact one_ne hbc
      | none =>
        rw [expl_none q2]
        obtain ⟨hc', hca⟩ := old c q2 hc
        exact h2 a c _ _ sa hc' (Ne.symm hca) q
    | none =>
      rw [expl_none q] at hx
      obtain ⟨hb', hba⟩ := old b q hb
      cases q2 : F a c with
      | some v2 =>
        rw [expl_some q2]
        refine one_ne fun z => ?_
        subst z
        have y := h2 b a x u hb' sa hba hx
        rw [y] at q2; cases q2
      | none =>
        rw [expl_none q2]
        obtain ⟨hc', hca⟩ := old c q2 hc
        exact h2 b c x u hb' hc' hbc hx
  · cases q : F a b with
    | some v =>
      rw [expl_some q] at hx
      obtain ⟨rfl, rfl⟩ := one_at hx
      exact h3 a _ _ sa q
    | none =>
      rw [expl_none q] at hx
      exact h3 b x u (old b q hb).1 hx
/-- objects are closed into one abstract object -/
def shut (A : AH) (m : MH) (a : Addr) (R : MH → Prop) : AH := fun b => if b = a then some (.abs R) else match m b with
  | some _ => none
  | none => A b
theorem shut_same {A : AH} {m : MH} {a : Addr} {R : MH → Prop} : shut A m a R a = some (.abs R) := by unfold shut; rw [if_pos rfl]
theorem shut_some {A : AH} {m : MH} {a b : Addr} {R : MH → Prop} {u : MO} (h : b ≠ a) (e : m b = some u) : shut A m a R b = none := by unfold shut; rw [if_neg h, e]
theorem shut_none {A : AH} {m : MH} {a b : Addr} {R : MH → Prop} (h : b ≠ a) (e : m b = none) : shut A m a R b = A b := by unfold shut; rw [if_neg h, e]
theorem HR.shut_ {A : AH} {H : Hp} {a : Addr} {m : MH} {R : MH → Prop} (h : HR K A H) (hm : ∀ b u, m b = some u → A b = some (.prim u)) (ha : ∃ u, m a = some u) (r : R m) : HR K (shut A m a R) H := by
  obtain ⟨F, h1, h2, h3⟩ := h
  have fm : ∀ b u, m b = some u → F b = one b u := fun b u hb => h1 b _ (hm b u hb)
  have old : ∀ c, c ≠ a → (shut A m a R c).isSome = true → (A c).isSome = true ∧ m c = none := fun c hc z => by
    cases q : m c with
    | some v => rw [shut_some hc q] at z; cases z
    | none => rw [shut_none hc q] at z; exact ⟨z, rfl⟩
  have apart : ∀ c x v u, c ≠ a → (shut A m a R c).isSome = true → m x = some v → F c x = some u → False := fun c x v u hc z hx hu => by
    obtain ⟨z1, z2⟩ := old c hc z
    have cx : x ≠ c := fun y => by rw [y, z2] at hx; cases hx
    have fx : F x x = some v := by rw [fm x v hx]; exact one_same
    have y := h2 x c x v (isSome_of (hm x v hx)) z1 cx fx
    rw [y] at hu; cases hu
  refine ⟨putM F a m, fun b o hb => ?_, fun b c x u hb hc hbc hx => ?_, fun b x u hb hx => ?_⟩
  · by_cases q : b = a
    · subst q
      rw [shut_same] at hb
      cases hb
      rw [putM_same]
      exact ⟨r, ha⟩
    · rw [putM_ne q]
      cases q2 : m b with
      | some v => rw [shut_some q q2] at hb; cases hb
      | none => rw [shut_none q q2] at hb; exact h1 b o hb
  · by_cases q : b = a
    · subst q
      rw [putM_same] at hx
      rw [putM_ne (Ne.symm hbc)]
      cases q2 : F c x with
      | none => rfl
      | some w => exact (apart c x u w (Ne.symm hbc) hc hx q2).elim
    · rw [putM_ne q] at hx
      by_cases q2 : c = a
      · subst q2
        rw [putM_same]
        cases q3 : m x with
        | none => rfl
        | some w => exact (apart b x w u q hb q3 hx).elim
      · rw [putM_ne q2]
        exact h2 b c x u (old b q hb).1 (old c q2 hc).1 hbc hx
  · by_cases q : b = a
    · subst q
      rw [putM_same] at hx
      exact h3 x x u (isSome_of (hm x u hx)) (by rw [fm x u hx]; exact one_same)
    · rw [putM_ne q] at hx
      exact h3 b x u (old b q hb).1 hx

/-- every heap that is seen as A is seen as A' -/
def Vw (A A' : AH) : Prop := ∀ (K : PySem.W.Frag) (H : Hp), HR K A H → HR K A' H
theorem Vw.refl (A : AH) : Vw A A := fun _ _ h => h
theorem Vw.trans {A B C : AH} (h : Vw A B) (k : Vw B C) : Vw A C := fun K H x => k K H (h K H x)
theorem Vw.sub {A A' : AH} (h : Sub A' A) : Vw A A' := fun _ _ x => x.sub h
theorem Vw.shut {A : AH} {a : Addr} {m : MH} {R : MH → Prop} (hm : ∀ b u, m b = some u → A b = some (.prim u)) (ha : ∃ u, m a = some u) (r : R m) : Vw A (shut A m a R) := fun _ _ x => x.shut_ hm ha r
end TL
/-! The tree layer: what a piece of syntax does, over trees. -/
namespace TL
open PySem PySem.Spec PyProof.Rows L2
abbrev St := L2.St

/-! ### runs: the reading of a piece of syntax that says all -/
def runE (X : Cx) (e : Expr) : TE := fun σ H Q => ∀ pins s, Inv X pins σ H s → wpAny (model X.prog X.w) X.A (eval e X.env) (EP X pins σ Q) X.xe s
def runT (X : Cx) (e : Expr) : TT := fun σ H Q => ∀ pins s, Inv X pins σ H s → wpAny (model X.prog X.w) X.A (isTrue e X.env (eval e X.env)) (TP X pins σ Q) X.xe s
def runW (X : Cx) (e : Expr) : TT := fun σ H Q => ∀ whole pins s, Inv X pins σ H s → wpAny (model X.prog X.w) X.A (isTrue e X.env whole) (TP X pins σ Q) X.xe s
def runA (X : Cx) (es : List Expr) : TA := fun σ H Q => ∀ pos pins s, Inv X pins σ H s → wpAny (model X.prog X.w) X.A (spliced (backTo pos (starEach es X.env))) (AP X pins σ Q) X.xe s
def runS (X : Cx) (st : Stmt) : TS := fun D σ H => ∀ pins s, Inv X pins σ H s → wpAny (model X.prog X.w) X.A (exec st X.env) (SP X pins D) X.xe s
def runB (X : Cx) (st : List Stmt) : TS := fun D σ H => ∀ pins s, Inv X pins σ H s → wpAny (model X.prog X.w) X.A (execs st X.env) (SP X pins D) X.xe s
def runG (X : Cx) (tg : Expr) : TG := fun v σ H Q => ∀ pins s u, Inv X pins σ H s → RelV v u → wpAny (model X.prog X.w) X.A (assign tg X.env u) (fun _ s' => ∃ σ' H', Inv X pins σ' H' s' ∧ Q σ' H') X.xe s
variable {X : Cx}
theorem pe_run {e : Expr} : PE X e (runE X e) := ⟨fun pins s σ H Q I h => h pins s I⟩
theorem pt_run {e : Expr} : PT X e (runT X e) := ⟨fun pins s σ H Q I h => h pins s I⟩
theorem pw_run {e : Expr} : PW X e (runW X e) := ⟨fun wh pins s σ H Q I h => h wh pins s I⟩
theorem pa_run {es : List Expr} : PA X es (runA X es) := ⟨fun pos pins s σ H Q I h => h pos pins s I⟩
theorem ps_run {st : Stmt} : PS X st (runS X st) := ⟨fun pins s σ H D I h => h pins s I⟩
theorem pss_run {st : List Stmt} : PSs X st (runB X st) := ⟨fun pins s σ H D I h => h pins s I⟩
theorem pg_run {tg : Expr} : PG X tg (runG X tg) := ⟨fun pins s σ H v u Q I r h => h pins s u I r⟩
theorem runE.of {e : Expr} {t : TE} (h : PE X e t) {σ : St} {H : Hp} {Q : VK} (q : t σ H Q) : runE X e σ H Q := fun pins s I => h.run pins s σ H Q I q
theorem runE.mono {e : Expr} {σ : St} {H : Hp} {Q Q' : VK} (h : runE X e σ H Q) (k : ∀ v H', Q v H' → Q' v H') : runE X e σ H Q' := fun pins s I => thn (h pins s I) fun u s' ⟨v, H', I', r, q⟩ => ⟨v, H', I', r, k v H' q⟩
theorem runT.of {e : Expr} {t : TT} (h : PT X e t) {σ : St} {H : Hp} {Q : Bool → Hp → Prop} (q : t σ H Q) : runT X e σ H Q := fun pins s I => h.run pins s σ H Q I q
theorem runT.mono {e : Expr} {σ : St} {H : Hp} {Q Q' : Bool → Hp → Prop} (h : runT X e σ H Q) (k : ∀ v H', Q v H' → Q' v H') : runT X e σ H Q' := fun pins s I => thn (h pins s I) fun u s' ⟨H', I', q⟩ => ⟨H', I', k u H' q⟩
theorem runW.mono {e : Expr} {σ : St} {H : Hp} {Q Q' : Bool → Hp → Prop} (h : runW X e σ H Q) (k : ∀ v H', Q v H' → Q' v H') : runW X e σ H Q' := fun wh pins s I => thn (h wh pins s I) fun u s' ⟨H', I', q⟩ => ⟨H', I', k u H' q⟩
theorem runW.t {e : Expr} {σ : St} {H : Hp} {Q : Bool → Hp → Prop} (h : runW X e σ H Q) : runT X e σ H Q := fun pins s I => h _ pins s I
theorem runA.of {es : List Expr} {t : TA} (h : PA X es t) {σ : St} {H : Hp} {Q : List V → Hp → Prop} (q : t σ H Q) : runA X es σ H Q := fun pos pins s I => h.run pos pins s σ H Q I q
theorem runA.mono {es : List Expr} {σ : St} {H : Hp} {Q Q' : List V → Hp → Prop} (h : runA X es σ H Q) (k : ∀ v H', Q v H' → Q' v H') : runA X es σ H Q' := fun pos pins s I => thn (h pos pins s I) fun u s' ⟨v, H', I', r, q⟩ => ⟨v, H', I', r, k v H' q⟩
theorem runS.of {st : Stmt} {t : TS} (h : PS X st t) {σ : St} {H : Hp} {D : Ends} (q : t D σ H) : runS X st D σ H := fun pins s I => h.run pins s σ H D I q
theorem runB.of {st : List Stmt} {t : TS} (h : PSs X st t) {σ : St} {H : Hp} {D : Ends} (q : t D σ H) : runB X st D σ H := fun pins s I => h.run pins s σ H D I q
theorem SP.mono {pins : List (Addr × Obj)} {D D' : Ends} {f : Flow} {s : Shared} (h : SP X pins D f s) (hn : ∀ σ H, D.nx σ H → D'.nx σ H) (hr : ∀ v H, D.rt v H → D'.rt v H) (hb : ∀ σ H, D.bk σ H → D'.bk σ H) (hc : ∀ σ H, D.ct σ H → D'.ct σ H) : SP X pins D' f s := by
  cases f with
  | next => obtain ⟨σ', H', I', q⟩ := h; exact ⟨σ', H', I', hn _ _ q⟩
  | brk => obtain ⟨σ', H', I', q⟩ := h; exact ⟨σ', H', I', hb _ _ q⟩
  | cont => obtain ⟨σ', H', I', q⟩ := h; exact ⟨σ', H', I', hc _ _ q⟩
  | ret u => obtain ⟨v, σ', H', I', r, q⟩ := h; exact ⟨v, σ', H', I', r, hr _ _ q⟩
theorem runS.mono {st : Stmt} {σ : St} {H : Hp} {D D' : Ends} (h : runS X st D σ H) (hn : ∀ σ H, D.nx σ H → D'.nx σ H) (hr : ∀ v H, D.rt v H → D'.rt v H) (hb : ∀ σ H, D.bk σ H → D'.bk σ H) (hc : ∀ σ H, D.ct σ H → D'.ct σ H) : runS X st D' σ H :=
  fun pins s I => thn (h pins s I) fun u s' q => SP.mono q hn hr hb hc
theorem runB.mono {st : List Stmt} {σ : St} {H : Hp} {D D' : Ends} (h : runB X st D σ H) (hn : ∀ σ H, D.nx σ H → D'.nx σ H) (hr : ∀ v H, D.rt v H → D'.rt v H) (hb : ∀ σ H, D.bk σ H → D'.bk σ H) (hc : ∀ σ H, D.ct σ H → D'.ct σ H) : runB X st D' σ H :=
  fun pins s I => thn (h pins s I) fun u s' q => SP.mono q hn hr hb hc

/-! ### over trees -/
abbrev Ds := List (Option D)
abbrev TQ := D → AH → Prop
abbrev BQ := Bool → AH → Prop
abbrev LsQ := List D → AH → Prop
/-- the slots hold (at least) these trees -/
structure Sl (K : PySem.W.Frag) (H : Hp) (σ : St) (δ : Ds) : Prop where
  len : σ.length = δ.length
  at_ : ∀ (i : Nat) d, δ[i]? = some (some d) → ∃ v, σ[i]? = some (some v) ∧ Rp K H v d
theorem Sl.keep {K : PySem.W.Frag} {H H' : Hp} {σ : St} {δ : Ds} (h : Sl K H σ δ) (k : Kp K H H') : Sl K H' σ δ := ⟨h.len, fun i d e => let ⟨v, h1, h2⟩ := h.at_ i d e; ⟨v, h1, h2.keep k⟩⟩
theorem Sl.set {K : PySem.W.Frag} {H : Hp} {σ : St} {δ : Ds} {v : V} {d : D} (h : Sl K H σ δ) (i : Nat) (r : Rp K H v d) : Sl K H (σ.set i (some v)) (δ.set i (some d)) := by
  refine ⟨by rw [List.length_set, List.length_set]; exact h.len, fun j e hj => ?_⟩
  by_cases q : j = i
  · subst q
    have hl : j < δ.length := by
      have := (List.getElem?_eq_some_iff.mp hj).1
      rw [List.length_set] at this; exact this
    rw [List.getElem?_set_self hl] at hj
    cases hj
    exact ⟨v, by rw [List.getElem?_set_self (by rw [h.len]; exact hl)], r⟩
  · rw [List.getElem?_set_ne (Ne.symm q)] at hj
    obtain ⟨w, h1, h2⟩ := h.at_ j e hj
    exact ⟨w, by rw [List.getElem?_set_ne (Ne.symm q)]; exact h1, h2⟩
def LQ (K : PySem.W.Frag) (H : Hp) (Q : TQ) : VK := fun v H' => ∃ d A', Kp K H H' ∧ Rp K H' v d ∧ HR K A' H' ∧ Q d A'
def LB (K : PySem.W.Frag) (H : Hp) (Q : BQ) : Bool → Hp → Prop := fun b H' => ∃ A', Kp K H H' ∧ HR K A' H' ∧ Q b A'
def LA (K : PySem.W.Frag) (H : Hp) (Q : LsQ) : List V → Hp → Prop := fun vs H' => ∃ ds A', Kp K H H' ∧ Rps K H' vs ds ∧ HR K A' H' ∧ Q ds A'
theorem LQ.from {K : PySem.W.Frag} {H H1 : Hp} {Q : TQ} {v : V} {H' : Hp} (k : Kp K H H1) (h : LQ K H1 Q v H') : LQ K H Q v H' := let ⟨d, A', k', r, hr, q⟩ := h; ⟨d, A', k.trans k', r, hr, q⟩
theorem LB.from {K : PySem.W.Frag} {H H1 : Hp} {Q : BQ} {v : Bool} {H' : Hp} (k : Kp K H H1) (h : LB K H1 Q v H') : LB K H Q v H' := let ⟨A', k', hr, q⟩ := h; ⟨A', k.trans k', hr, q⟩
theorem LA.from {K : PySem.W.Frag} {H H1 : Hp} {Q : LsQ} {v : List V} {H' : Hp} (k : Kp K H H1) (h : LA K H1 Q v H') : LA K H Q v H' := let ⟨d, A', k', r, hr, q⟩ := h; ⟨d, A', k.trans k', r, hr, q⟩

structure TEnds where
  nx : Ds → AH → Prop
  rt : TQ
  bk : Ds → AH → Prop := fun _ _ => False
  ct : Ds → AH → Prop := fun _ _ => False
def LN (K : PySem.W.Frag) (H : Hp) (N : Ds → AH → Prop) : St → Hp → Prop := fun σ' H' => ∃ δ' A', Kp K H H' ∧ Sl K H' σ' δ' ∧ HR K A' H' ∧ N δ' A'
def LE (K : PySem.W.Frag) (H : Hp) (D : TEnds) : Ends := { nx := LN K H D.nx, rt := LQ K H D.rt, bk := LN K H D.bk, ct := LN K H D.ct }
theorem LN.from {K : PySem.W.Frag} {H H1 : Hp} {N : Ds → AH → Prop} {σ' : St} {H' : Hp} (k : Kp K H H1) (h : LN K H1 N σ' H') : LN K H N σ' H' := let ⟨d, A', k', r, hr, q⟩ := h; ⟨d, A', k.trans k', r, hr, q⟩

def WPE (X : Cx) (e : Expr) (δ : Ds) (A : AH) (Q : TQ) : Prop := ∀ σ H, Sl X.K H σ δ → HR X.K A H → runE X e σ H (LQ X.K H Q)
def WPT (X : Cx) (e : Expr) (δ : Ds) (A : AH) (Q : BQ) : Prop := ∀ σ H, Sl X.K H σ δ → HR X.K A H → runT X e σ H (LB X.K H Q)
def WPW (X : Cx) (e : Expr) (δ : Ds) (A : AH) (Q : BQ) : Prop := ∀ σ H, Sl X.K H σ δ → HR X.K A H → runW X e σ H (LB X.K H Q)
def WPA (X : Cx) (es : List Expr) (δ : Ds) (A : AH) (Q : LsQ) : Prop := ∀ σ H, Sl X.K H σ δ → HR X.K A H → runA X es σ H (LA X.K H Q)
def WPS (X : Cx) (st : Stmt) (δ : Ds) (A : AH) (D : TEnds) : Prop := ∀ σ H, Sl X.K H σ δ → HR X.K A H → runS X st (LE X.K H D) σ H
def WPB (X : Cx) (st : List Stmt) (δ : Ds) (A : AH) (D : TEnds) : Prop := ∀ σ H, Sl X.K H σ δ → HR X.K A H → runB X st (LE X.K H D) σ H
/-- evaluates to d, nothing that is seen changes -/
def Ev (X : Cx) (e : Expr) (δ : Ds) (A : AH) (d : D) : Prop := ∀ A1, Sub A A1 → ∀ Q : TQ, Q d A1 → WPE X e δ A1 Q
def EvT (X : Cx) (e : Expr) (δ : Ds) (A : AH) (b : Bool) : Prop := ∀ A1, Sub A A1 → ∀ Q : BQ, Q b A1 → WPT X e δ A1 Q
def EvA (X : Cx) (es : List Expr) (δ : Ds) (A : AH) (ds : List D) : Prop := ∀ A1, Sub A A1 → ∀ Q : LsQ, Q ds A1 → WPA X es δ A1 Q
/-- evaluates to a new object -/
def EvN (X : Cx) (e : Expr) (δ : Ds) (A : AH) (o : MO) : Prop := ∀ A1, Sub A A1 → ∀ Q : TQ, (∀ p, A1 p = none → Q (.ref p) (updA A1 p (.prim o))) → WPE X e δ A1 Q

theorem op_is_bl {X : Cx} : OpR X (compareOp .Is) (fun x y H Q => ∃ a b, x = .bl a ∧ y = .bl b ∧ Q (.bl (decide (a = b))) H) := L2.op_is_bl
variable {e a b c : Expr} {es : List Expr} {δ : Ds} {A : AH} {Q : TQ} {d x y z : D} {pos : Pos} {t ta tb : TE}
theorem Ev.wp (h : Ev X e δ A d) (q : Q d A) : WPE X e δ A Q := h A (Sub.refl A) Q q
theorem EvT.wp {k : Bool} {Q : BQ} (h : EvT X e δ A k) (q : Q k A) : WPT X e δ A Q := h A (Sub.refl A) Q q
theorem EvA.wp {ds : List D} {Q : LsQ} (h : EvA X es δ A ds) (q : Q ds A) : WPA X es δ A Q := h A (Sub.refl A) Q q
theorem EvN.wp {o : MO} (h : EvN X e δ A o) (q : ∀ p, A p = none → Q (.ref p) (updA A p (.prim o))) : WPE X e δ A Q := h A (Sub.refl A) Q q
theorem Ev.sub {A' : AH} (h : Ev X e δ A d) (k : Sub A A') : Ev X e δ A' d := fun A1 k1 => h A1 (k.trans k1)
theorem EvT.sub {A' : AH} {k : Bool} (h : EvT X e δ A k) (s : Sub A A') : EvT X e δ A' k := fun A1 k1 => h A1 (s.trans k1)
theorem EvN.sub {A' : AH} {o : MO} (h : EvN X e δ A o) (k : Sub A A') : EvN X e δ A' o := fun A1 k1 => h A1 (k.trans k1)
theorem EvA.sub {A' : AH} {ds : List D} (h : EvA X es δ A ds) (k : Sub A A') : EvA X es δ A' ds := fun A1 k1 => h A1 (k.trans k1)
/-- see the heap otherwise -/
theorem WPE.vw {A' : AH} (v : Vw A A') (h : WPE X e δ A' Q) : WPE X e δ A Q := fun σ H s r => h σ H s (v _ _ r)
theorem WPB.vw {st : List Stmt} {A' : AH} {D : TEnds} (v : Vw A A') (h : WPB X st δ A' D) : WPB X st δ A D := fun σ H s r => h σ H s (v _ _ r)
theorem WPS.vw {st : Stmt} {A' : AH} {D : TEnds} (v : Vw A A') (h : WPS X st δ A' D) : WPS X st δ A D := fun σ H s r => h σ H s (v _ _ r)
theorem WPB.open_ {st : List Stmt} {D : TEnds} {p : Addr} {R : MH → Prop} (e : A p = some (.abs R)) (h : ∀ m : MH, R m → (∃ u, m p = some u) → (∀ b u, b ≠ p → m b = some u → A b = none) → WPB X st δ (over A m) D) : WPB X st δ A D := fun σ H s r => by
  obtain ⟨m, h1, h2, h3, h4⟩ := r.open_ e
  exact h m h1 h2 h3 σ H s h4
theorem WPE.mono {Q' : TQ} (h : WPE X e δ A Q) (k : ∀ d A', Q d A' → Q' d A') : WPE X e δ A Q' := fun σ H s r => runE.mono (h σ H s r) fun v H' ⟨d, A', k', rp, hr, q⟩ => ⟨d, A', k', rp, hr, k d A' q⟩
theorem WPT.mono {Q Q' : BQ} (h : WPT X e δ A Q) (k : ∀ d A', Q d A' → Q' d A') : WPT X e δ A Q' := fun σ H s r => runT.mono (h σ H s r) fun v H' ⟨A', k', hr, q⟩ => ⟨A', k', hr, k v A' q⟩

theorem WPE.monoV {Q' : TQ} (h : WPE X e δ A Q) (k : ∀ d A', Q d A' → ∃ A'', Vw A' A'' ∧ Q' d A'') : WPE X e δ A Q' := fun σ H s r => runE.mono (h σ H s r) fun v H' ⟨d, A', k', rp, hr, q⟩ => let ⟨A'', v, q'⟩ := k d A' q; ⟨d, A'', k', rp, v _ _ hr, q'⟩
theorem WPT.monoV {Q Q' : BQ} (h : WPT X e δ A Q) (k : ∀ d A', Q d A' → ∃ A'', Vw A' A'' ∧ Q' d A'') : WPT X e δ A Q' := fun σ H s r => runT.mono (h σ H s r) fun v H' ⟨A', k', hr, q⟩ => let ⟨A'', w, q'⟩ := k v A' q; ⟨A'', k', w _ _ hr, q'⟩

/-! ### names, constants -/
theorem ev_name {x : Str} {i : Nat} (hN : X.N[i]? = some x) (h : δ[i]? = some (some d)) (hv : Vis X.env.scope x) (hd : (x == ("__debug__" : Str)) = false := by decide) (hcd : (x == ("__classdict__" : Str)) = false := by decide) : Ev X (.Name x pos) δ A d :=
  fun A1 _ Q q σ H s r => runE.of (pe_var hN hv hd hcd) (let ⟨v, h1, h2⟩ := s.at_ i d h; ⟨v, h1, d, A1, Kp.refl H, h2, r, q⟩)
theorem ev_const {v : V} (h : PE X e (tC v)) (rp : ∀ H, Rp X.K H v d) : Ev X e δ A d := fun A1 _ Q q σ H s r => runE.of h ⟨d, A1, Kp.refl H, rp H, r, q⟩
theorem ev_int {i : Int} {j pos} : Ev X (.Constant (.int i) j pos) δ A (.int i) := ev_const pe_int fun _ => .int
theorem ev_bl {k : Bool} {j pos} : Ev X (.Constant (.bool k) j pos) δ A (.bl k) := ev_const pe_bl fun _ => .bl
theorem ev_non {j pos} : Ev X (.Constant .none j pos) δ A .non := ev_const pe_non fun _ => .non
theorem ev_str {s : Str} {j pos} : Ev X (.Constant (.str s) j pos) δ A (.str s) := ev_const pe_str fun _ => .str
/-- a module's constant (a text, an int), a class -/
theorem ev_glob {x : Str} {v : V} {u : Value} (hg : Gl X x) (hm : X.mg x = some u) (r : RelV v u) (rp : ∀ H, Rp X.K H v d) (hd : (x == ("__debug__" : Str)) = false := by decide) : Ev X (.Name x pos) δ A d := ev_const (pe_glob hg hm r hd) rp

/-! ### operators by values -/
def OpW (X : Cx) (f : Value → Value → Sem Value) (x y : D) (A : AH) (Q : TQ) : Prop := ∃ r, OpR X f r ∧ ∀ H vx vy, HR X.K A H → Rp X.K H vx x → Rp X.K H vy y → ∀ R : VK, (∀ v H' d A', Kp X.K H H' → Rp X.K H' v d → HR X.K A' H' → Q d A' → R v H') → r vx vy H R
def OpV (X : Cx) (f : Value → Value → Sem Value) (x y : D) (A : AH) (z : D) : Prop := ∀ A1, Sub A A1 → ∀ Q : TQ, Q z A1 → OpW X f x y A1 Q
def OpN (X : Cx) (f : Value → Value → Sem Value) (x y : D) (A : AH) (o : MO) : Prop := ∀ A1, Sub A A1 → ∀ Q : TQ, (∀ p, A1 p = none → Q (.ref p) (updA A1 p (.prim o))) → OpW X f x y A1 Q
theorem OpV.w {f : Value → Value → Sem Value} (h : OpV X f x y A z) (q : Q z A) : OpW X f x y A Q := h A (Sub.refl A) Q q
theorem OpN.w {f : Value → Value → Sem Value} {o : MO} (h : OpN X f x y A o) (q : ∀ p, A p = none → Q (.ref p) (updA A p (.prim o))) : OpW X f x y A Q := h A (Sub.refl A) Q q
theorem wpe_two {R : D → D → AH → Prop} (h : WPE X a δ A fun x A1 => WPE X b δ A1 fun y A2 => R x y A2) {σ : St} {H : Hp} (s : Sl X.K H σ δ) (r : HR X.K A H) :
    runE X a σ H fun vx H1 => runE X b σ H1 fun vy H2 => ∃ x y A2, Kp X.K H H2 ∧ Rp X.K H2 vx x ∧ Rp X.K H2 vy y ∧ HR X.K A2 H2 ∧ R x y A2 :=
  runE.mono (h σ H s r) fun vx H1 ⟨x, A1, k1, rx, r1, h1⟩ => runE.mono (h1 σ H1 (s.keep k1) r1) fun vy H2 ⟨y, A2, k2, ry, r2, q⟩ => ⟨x, y, A2, k1.trans k2, rx.keep k2, ry, r2, q⟩
/-- the operator's own reading is looked for at each state -/
def rOpW (X : Cx) (f : Value → Value → Sem Value) : R2 := fun vx vy H R => ∃ x y A Q, HR X.K A H ∧ Rp X.K H vx x ∧ Rp X.K H vy y ∧ OpW X f x y A Q ∧ ∀ v H' d A', Kp X.K H H' → Rp X.K H' v d → HR X.K A' H' → Q d A' → R v H'
theorem opr_w {f : Value → Value → Sem Value} : OpR X f (rOpW X f) := fun pins s σ H vx vy v u R I rx ry h => by
  obtain ⟨x, y, A, Q, hr, hx, hy, ⟨r, ho, hq⟩, hR⟩ := h
  exact ho pins s σ H vx vy v u R I rx ry (hq H vx vy hr hx hy R hR)
theorem wpe_bin {op : Operator} (h : WPE X a δ A fun x A1 => WPE X b δ A1 fun y A2 => OpW X (binaryOp op) x y A2 Q) : WPE X (.BinOp a op b pos) δ A Q := fun σ H s r =>
  runE.of (pe_op opr_w pe_run pe_run) (runE.mono (wpe_two h s r) fun vx H1 h => runE.mono h fun vy H2 ⟨x, y, A2, k, rx, ry, hr, q⟩ => ⟨x, y, A2, Q, hr, rx, ry, q, fun v H' d A' k' rp hr' q' => ⟨d, A', k.trans k', rp, hr', q'⟩⟩)
theorem wpe_cmp {op : CmpOp} (hm : behindInMarks op b = false) (h : WPE X a δ A fun x A1 => WPE X b δ A1 fun y A2 => OpW X (compareOp op) x y A2 Q) : WPE X (.Compare a [op] [b] pos) δ A Q := fun σ H s r =>
  runE.of (pe_cmpR opr_w pe_run pe_run hm) (runE.mono (wpe_two h s r) fun vx H1 h => runE.mono h fun vy H2 ⟨x, y, A2, k, rx, ry, hr, q⟩ => ⟨x, y, A2, Q, hr, rx, ry, q, fun v H' d A' k' rp hr' q' => ⟨d, A', k.trans k', rp, hr', q'⟩⟩)
theorem wpt_cmp {op : CmpOp} {Q : BQ} (hm : behindInMarks op b = false) (h : WPE X a δ A fun x A1 => WPE X b δ A1 fun y A2 => OpW X (compareOp op) x y A2 fun d A3 => ∃ k, d = .bl k ∧ Q k A3) : WPT X (.Compare a [op] [b] pos) δ A Q := fun σ H s r =>
  runT.of (pt_cmpR opr_w pe_run pe_run hm) (runE.mono (wpe_two h s r) fun vx H1 h => runE.mono h fun vy H2 ⟨x, y, A2, k, rx, ry, hr, q⟩ => ⟨x, y, A2, _, hr, rx, ry, q, fun v H' d A' k' rp hr' ⟨b, e, q'⟩ => by subst e; cases rp; exact ⟨b, rfl, A', k.trans k', hr', q'⟩⟩)
theorem ev_bin {op : Operator} (ha : Ev X a δ A x) (hb : Ev X b δ A y) (ho : OpV X (binaryOp op) x y A z) : Ev X (.BinOp a op b pos) δ A z := fun A1 k Q q => wpe_bin (ha A1 k _ (hb A1 k _ (ho A1 k Q q)))
theorem ev_cmp {op : CmpOp} (ha : Ev X a δ A x) (hb : Ev X b δ A y) (ho : OpV X (compareOp op) x y A z) (hm : behindInMarks op b = false) : Ev X (.Compare a [op] [b] pos) δ A z := fun A1 k Q q => wpe_cmp hm (ha A1 k _ (hb A1 k _ (ho A1 k Q q)))
theorem evn_bin {op : Operator} {o : MO} (ha : Ev X a δ A x) (hb : Ev X b δ A y) (ho : OpN X (binaryOp op) x y A o) : EvN X (.BinOp a op b pos) δ A o := fun A1 k Q q => wpe_bin (ha A1 k _ (hb A1 k _ (ho A1 k Q q)))
theorem et_cmp {op : CmpOp} {k : Bool} (ha : Ev X a δ A x) (hb : Ev X b δ A y) (ho : OpV X (compareOp op) x y A (.bl k)) (hm : behindInMarks op b = false) : EvT X (.Compare a [op] [b] pos) δ A k := fun A1 kk Q q => wpt_cmp hm (ha A1 kk _ (hb A1 kk _ (ho A1 kk _ ⟨k, rfl, q⟩)))
/-- by a reading of the layer below that changes nothing -/
theorem opv_of {f : Value → Value → Sem Value} {r : R2} (ho : OpR X f r) (h : ∀ A1, Sub A A1 → ∀ H vx vy, HR X.K A1 H → Rp X.K H vx x → Rp X.K H vy y → ∀ R : VK, (∀ v, Rp X.K H v z → R v H) → r vx vy H R) : OpV X f x y A z :=
  fun A1 k Q q => ⟨r, ho, fun H vx vy hr rx ry R hR => h A1 k H vx vy hr rx ry R fun v rp => hR v H z A1 (Kp.refl H) rp hr q⟩
/-- ints -/
theorem opv_int {f : Value → Value → Sem Value} {C : Int → Int → Prop} {g : Int → Int → V} {i j : Int} (ho : OpR X f (rI C g)) (hc : C i j) (rp : ∀ H, Rp X.K H (g i j) z) : OpV X f (.int i) (.int j) A z :=
  opv_of ho fun A1 _ H vx vy hr rx ry R q => by cases rx; cases ry; exact ⟨i, j, rfl, rfl, hc, q _ (rp H)⟩
theorem opv_int0 {f : Value → Value → Sem Value} {g : Int → Int → V} {i j : Int} (ho : OpR X f (rI0 g)) (rp : ∀ H, Rp X.K H (g i j) z) : OpV X f (.int i) (.int j) A z :=
  opv_of ho fun A1 _ H vx vy hr rx ry R q => by cases rx; cases ry; exact ⟨i, j, rfl, rfl, q _ (rp H)⟩
variable {i j : Int}
theorem opv_add : OpV X (binaryOp .Add) (.int i) (.int j) A (.int (i + j)) := opv_int0 op_add fun _ => .int
theorem opv_sub : OpV X (binaryOp .Sub) (.int i) (.int j) A (.int (i - j)) := opv_int0 op_sub fun _ => .int
theorem opv_mul (h : CMul i j) : OpV X (binaryOp .Mult) (.int i) (.int j) A (.int (i * j)) := opv_int op_mul h fun _ => .int
theorem opv_mod (h : 0 < j) : OpV X (binaryOp .Mod) (.int i) (.int j) A (.int (i % j)) := opv_int op_mod h fun _ => .int
theorem opv_fdivW (h : CDivW i j) : OpV X (binaryOp .FloorDiv) (.int i) (.int j) A (.int (i / j)) := opv_int op_fdivW h fun _ => .int
theorem opv_fdiv (h : CDiv i j) : OpV X (binaryOp .FloorDiv) (.int i) (.int j) A (.int (i / j)) := opv_int op_fdiv h fun _ => .int
theorem opv_pow (h : CPow i j) : OpV X (binaryOp .Pow) (.int i) (.int j) A (.int (i ^ j.toNat)) := opv_int op_pow h fun _ => .int
theorem opv_lt : OpV X (compareOp .Lt) (.int i) (.int j) A (.bl (decide (i < j))) := opv_int0 op_lt fun _ => .bl
theorem opv_le : OpV X (compareOp .LtE) (.int i) (.int j) A (.bl (decide (i ≤ j))) := opv_int0 op_le fun _ => .bl
theorem opv_gt : OpV X (compareOp .Gt) (.int i) (.int j) A (.bl (decide (j < i))) := opv_int0 op_gt fun _ => .bl
theorem opv_ge : OpV X (compareOp .GtE) (.int i) (.int j) A (.bl (decide (j ≤ i))) := opv_int0 op_ge fun _ => .bl
theorem opv_adds {s u : Str} (h : s.length + u.length ≤ sizeLine) : OpV X (binaryOp .Add) (.str s) (.str u) A (.str (s ++ u)) :=
  opv_of op_add_str fun A1 _ H vx vy hr rx ry R q => by cases rx; cases ry; exact ⟨s, u, rfl, rfl, h, q _ .str⟩
/-- is None -/
def isNon : D → Bool
  | .non => true
  | _ => false
theorem opv_isN : OpV X (compareOp .Is) x .non A (.bl (isNon x)) :=
  opv_of op_isN fun A1 _ H vx vy hr rx ry R q => by cases ry; exact ⟨rfl, q _ (by cases rx <;> exact .bl)⟩
theorem opv_notN : OpV X (compareOp .IsNot) x .non A (.bl (!isNon x)) :=
  opv_of op_notN fun A1 _ H vx vy hr rx ry R q => by cases ry; exact ⟨rfl, q _ (by cases rx <;> exact .bl)⟩
/-- is True, is False -/
theorem opv_isBl {k l : Bool} : OpV X (compareOp .Is) (.bl k) (.bl l) A (.bl (decide (k = l))) :=
  opv_of TL.op_is_bl fun A1 _ H vx vy hr rx ry R q => by cases rx; cases ry; exact ⟨k, l, rfl, rfl, q _ .bl⟩
/-- data with a type: ==, !=, in, not in -/
class Tree (α : Type) [DecidableEq α] [PySem.W.Datum α] where
  enc : α → D
  holds : ∀ {X : Cx} {pins : List (Addr × Obj)} {σ : St} {H : Hp} {s : Shared} {v : V} {u : Value} {a : α}, Inv X pins σ H s → RelV v u → Rp X.K H v (enc a) → PySem.W.Holds s.heap u a
abbrev enc {α : Type} [DecidableEq α] [PySem.W.Datum α] [Tree α] (a : α) : D := Tree.enc a
instance : Tree Int where
  enc := .int
  holds := fun I r h => by cases h; obtain ⟨t, rfl⟩ := r; exact PySem.W.holds_int _ _
instance : Tree Str where
  enc := .str
  holds := fun I r h => by cases h; obtain ⟨t, rfl⟩ := r; exact PySem.W.holds_str _ _
instance : Tree Bool where
  enc := .bl
  holds := fun I r h => by cases h; cases r; exact PySem.W.holds_bool _
theorem rps_cons {K : PySem.W.Frag} {H : Hp} {vs : List V} {d : D} {ds : List D} (h : Rps K H vs (d :: ds)) : ∃ v r, vs = v :: r ∧ Rp K H v d ∧ Rps K H r ds := by
  cases h with
  | cons a b => exact ⟨_, _, rfl, a, b⟩
theorem rps_nil {K : PySem.W.Frag} {H : Hp} {vs : List V} (h : Rps K H vs []) : vs = [] := by cases h; rfl
instance {α β : Type} [DecidableEq α] [PySem.W.Datum α] [Tree α] [DecidableEq β] [PySem.W.Datum β] [Tree β] : Tree (α × β) where
  enc := fun p => .tup [Tree.enc p.1, Tree.enc p.2]
  holds := fun I r h => by
    obtain ⟨a, vs, rfl, ht, hv⟩ := h.tup_inv
    obtain ⟨v1, r1, rfl, h1, hv⟩ := rps_cons hv
    obtain ⟨v2, r2, rfl, h2, hv⟩ := rps_cons hv
    have e := rps_nil hv
    subst e
    cases r
    obtain ⟨its, rv, tp, _⟩ := I.tuple ht
    cases rv with
    | cons q1 rv =>
      cases rv with
      | cons q2 rv =>
        cases rv
        exact PySem.W.holds_pair tp (Tree.holds I q1 h1) (Tree.holds I q2 h2)
section
variable {α : Type} [DecidableEq α] [PySem.W.Datum α] [Tree α]
theorem holdsAll {X : Cx} {pins : List (Addr × Obj)} {σ : St} {H : Hp} {s : Shared} (I : Inv X pins σ H s) : ∀ {vs : List V} {us : List Value} {xs : List α}, Vals vs us → Rps X.K H vs (xs.map Tree.enc) → PySem.W.HoldAll s.heap us xs
  | _, _, [], .nil, _ => PySem.W.HoldAll.nil
  | _, _, _ :: _, .nil, h => by cases h
  | _, _, [], .cons _ _, h => by cases h
  | _, _, x :: xs, .cons r t, h => by
    cases h with
    | cons a b => exact PySem.W.HoldAll.cons (Tree.holds I r a) (holdsAll I t b)
end
instance {α : Type} [DecidableEq α] [PySem.W.Datum α] [Tree α] : Tree (PySem.W.Tup α) where
  enc := fun t => .tup (t.items.map Tree.enc)
  holds := fun {X pins σ H s v u t} I r h => by
    obtain ⟨a, vs, rfl, ht, hv⟩ := h.tup_inv
    cases r
    obtain ⟨its, rv, tp, _⟩ := I.tuple ht
    obtain ⟨xs⟩ := t
    exact PySem.W.holds_tup tp (by simpa using holdsAll I rv hv)
end TL
/-! The tree layer: bodies, statements, loops, calls. -/
namespace TL
open PySem PySem.Spec PyProof.Rows L2

/-! ### where one stands -/
structure BC (X : Cx) (N : List Str) (sc : Scope) : Prop where
  n : X.N = N
  nd : X.N.Nodup
  calm : X.calm = true
  vis : ∀ x, Vis sc x → Vis X.env.scope x
  glo : ∀ x, sc.names.lookup x = some .globalImplicit → X.env.kindOf x = some .globalImplicit
structure SC (X : Cx) (N : List Str) (sc : Scope) : Prop extends BC X N sc where
  sc : X.env.scope = sc
  fn : ∀ x, X.fn x = true
  po : PassesOwn (model X.prog X.w) X.A X.env X.xe
variable {X : Cx} {N : List Str} {sc : Scope} {e a b c : Expr} {es : List Expr} {st : Stmt} {rest : List Stmt} {δ : Ds} {A : AH} {Q : TQ} {D : TEnds} {d x y z : TL.D} {pos : Pos}
theorem BC.nm {s : Str} {i : Nat} (B : BC X N sc) (hN : N[i]? = some s) (h : δ[i]? = some (some d)) (hv : Vis sc s) (hd : (s == ("__debug__" : Str)) = false := by decide) (hcd : (s == ("__classdict__" : Str)) = false := by decide) : Ev X (.Name s pos) δ A d :=
  ev_name (by rw [B.n]; exact hN) h (B.vis _ hv) hd hcd
theorem BC.gl {s : Str} (B : BC X N sc) (h : sc.names.lookup s = some .globalImplicit) : Gl X s := B.glo s h
theorem lookup_mapk (g : Str → NameKind → NameKind) (x : Str) : ∀ l : List (Str × NameKind), (l.map fun p => (p.1, g p.1 p.2)).lookup x = (l.lookup x).map (g x)
  | [] => rfl
  | (n, k) :: r => by
    rw [List.map_cons, List.lookup_cons, List.lookup_cons, lookup_mapk g x r]
    by_cases q : x = n
    · subst q; simp
    · have hx : (x == n) = false := by simpa using q
      rw [hx]
def relk (env : Env) (n : Str) (k : NameKind) : NameKind := if (k == NameKind.free && env.scope.kind == .function && env.kindOf n == some .cell) = true then NameKind.cell else k
theorem lookup_relabel {scope : Scope} {env : Env} {x : Str} {k : NameKind} (h : scope.names.lookup x = some k) : (relabel scope env).names.lookup x = some k ∨ (k = .free ∧ (relabel scope env).names.lookup x = some .cell) := by
  have e : (relabel scope env).names = scope.names.map fun p => (p.1, relk env p.1 p.2) := by
    unfold relabel
    refine List.map_congr_left fun p _ => ?_
    obtain ⟨n, k⟩ := p
    unfold relk
    show (if _ then _ else _) = (n, if _ then _ else _)
    split <;> rfl
  rw [e, lookup_mapk, h]
  show some (relk env x k) = _ ∨ _ ∧ some (relk env x k) = _
  unfold relk
  split
  · rename_i c
    right
    simp only [Bool.and_eq_true] at c
    exact ⟨eq_of_beq c.1.1, rfl⟩
  · left; rfl
theorem BC.blk {s : Shared} {H : Hp} {scope : Scope} {cl : List (Str × Addr)} {C : Addr} {fp : List Addr} (B : BC X N sc) : BC (X.blk s H scope (compEnvC scope cl C X.env) fp) N scope where
  n := B.n
  nd := B.nd
  calm := B.calm
  vis := fun x h => by
    show Vis (relabel scope X.env) x
    rcases h with h | h | h
    · rcases lookup_relabel (env := X.env) h with q | ⟨q, _⟩
      · exact .inl q
      · cases q
    · rcases lookup_relabel (env := X.env) h with q | ⟨q, _⟩
      · exact .inr (.inl q)
      · cases q
    · rcases lookup_relabel (env := X.env) h with q | ⟨_, q⟩
      · exact .inr (.inr q)
      · exact .inr (.inl q)
  glo := fun x h => by
    rcases lookup_relabel (env := X.env) h with q | ⟨q, _⟩
    · exact q
    · cases q

/-! ### tests -/
theorem wpt_val {Q : BQ} (h : WPE X e δ A fun v A1 => ∃ k, v = .bl k ∧ Q k A1) (he : ∀ whole, isTrue e X.env whole = (do let v ← whole; standAt e.pos; holding [v] (truthy v)) := by intro _; rfl) : WPT X e δ A Q := fun σ H s r =>
  runT.of (pt_val pe_run he) (runE.mono (h σ H s r) fun v H' ⟨d, A', k', rp, hr, k, e, q⟩ => by subst e; cases rp; exact ⟨k, rfl, A', k', hr, q⟩)
theorem et_val {k : Bool} (h : Ev X e δ A (.bl k)) (he : ∀ whole, isTrue e X.env whole = (do let v ← whole; standAt e.pos; holding [v] (truthy v)) := by intro _; rfl) : EvT X e δ A k := fun A1 kk Q q => wpt_val (h A1 kk _ ⟨k, rfl, q⟩) he
theorem wpt_not {Q : BQ} (h : WPT X a δ A fun k A1 => Q (!k) A1) : WPT X (.UnaryOp .Not a pos) δ A Q := fun σ H s r => runT.of (pt_not pt_run) (h σ H s r)
theorem et_not {k : Bool} (h : EvT X a δ A k) : EvT X (.UnaryOp .Not a pos) δ A (!k) := fun A1 kk Q q => wpt_not (h A1 kk _ q)
theorem WPW.t {Q : BQ} (h : WPW X e δ A Q) : WPT X e δ A Q := fun σ H s r => (h σ H s r).t
theorem runW.of {e : Expr} {t : TT} (h : PW X e t) {σ : St} {H : Hp} {Q : Bool → Hp → Prop} (q : t σ H Q) : runW X e σ H Q := fun wh pins s I => h.run wh pins s σ H Q I q
theorem wpw_and1 {Q : BQ} (h : WPT X a δ A Q) : WPW X (.BoolOp .And [a] pos) δ A Q := fun σ H s r => runW.of (pw_and1 pt_run) (h σ H s r)
theorem wpw_or1 {Q : BQ} (h : WPT X a δ A Q) : WPW X (.BoolOp .Or [a] pos) δ A Q := fun σ H s r => runW.of (pw_or1 pt_run) (h σ H s r)
theorem wpw_and {Q : BQ} (h : WPT X a δ A fun k A1 => if k = true then WPW X (.BoolOp .And (b :: es) pos) δ A1 Q else Q false A1) : WPW X (.BoolOp .And (a :: b :: es) pos) δ A Q := fun σ H s r => by
  refine runW.of (pw_and pt_run pw_run) (runT.mono (h σ H s r) fun k H1 ⟨A1, k1, hr, q⟩ => ?_)
  cases k with
  | true =>
    rw [if_pos rfl] at q ⊢
    exact runW.mono (q σ H1 (s.keep k1) hr) fun v H' => LB.from k1
  | false =>
    rw [if_neg Bool.false_ne_true] at q ⊢
    exact ⟨A1, k1, hr, q⟩
theorem wpw_or {Q : BQ} (h : WPT X a δ A fun k A1 => if k = true then Q true A1 else WPW X (.BoolOp .Or (b :: es) pos) δ A1 Q) : WPW X (.BoolOp .Or (a :: b :: es) pos) δ A Q := fun σ H s r => by
  refine runW.of (pw_or pt_run pw_run) (runT.mono (h σ H s r) fun k H1 ⟨A1, k1, hr, q⟩ => ?_)
  cases k with
  | true =>
    rw [if_pos rfl] at q ⊢
    exact ⟨A1, k1, hr, q⟩
  | false =>
    rw [if_neg Bool.false_ne_true] at q ⊢
    exact runW.mono (q σ H1 (s.keep k1) hr) fun v H' => LB.from k1
def EvW (X : Cx) (e : Expr) (δ : Ds) (A : AH) (b : Bool) : Prop := ∀ A1, Sub A A1 → ∀ Q : BQ, Q b A1 → WPW X e δ A1 Q
theorem ew_and1 {k : Bool} (h : EvT X a δ A k) : EvW X (.BoolOp .And [a] pos) δ A k := fun A1 kk Q q => wpw_and1 (h A1 kk Q q)
theorem ew_or1 {k : Bool} (h : EvT X a δ A k) : EvW X (.BoolOp .Or [a] pos) δ A k := fun A1 kk Q q => wpw_or1 (h A1 kk Q q)
theorem ew_and {k l : Bool} (h : EvT X a δ A k) (h2 : k = true → EvW X (.BoolOp .And (b :: es) pos) δ A l) : EvW X (.BoolOp .And (a :: b :: es) pos) δ A (k && l) := fun A1 kk Q q => wpw_and (h A1 kk _ (by
  cases k with
  | true => rw [if_pos rfl]; exact h2 rfl A1 kk Q q
  | false => rw [if_neg Bool.false_ne_true]; exact q))
theorem ew_or {k l : Bool} (h : EvT X a δ A k) (h2 : k = false → EvW X (.BoolOp .Or (b :: es) pos) δ A l) : EvW X (.BoolOp .Or (a :: b :: es) pos) δ A (k || l) := fun A1 kk Q q => wpw_or (h A1 kk _ (by
  cases k with
  | true => rw [if_pos rfl]; exact q
  | false => rw [if_neg Bool.false_ne_true]; exact h2 rfl A1 kk Q q))
theorem et_w {k : Bool} (h : EvW X e δ A k) : EvT X e δ A k := fun A1 kk Q q => (h A1 kk Q q).t
/-- and, or, not as values -/
theorem ev_one {op} (h : Ev X a δ A d) : Ev X (.BoolOp op [a] pos) δ A d := fun A1 k Q q σ H s r => runE.of (pe_one pe_run) (h A1 k Q q σ H s r)
theorem wpe_and (h : WPE X a δ A fun v A1 => ∃ k, v = .bl k ∧ if k = true then WPE X (.BoolOp .And (b :: es) pos) δ A1 Q else Q (.bl false) A1) : WPE X (.BoolOp .And (a :: b :: es) pos) δ A Q := fun σ H s r => by
  refine runE.of (pe_and pe_run pe_run) (runE.mono (h σ H s r) fun v H1 ⟨d, A1, k1, rp, hr, k, e, q⟩ => ?_)
  subst e
  cases rp
  refine ⟨k, rfl, ?_⟩
  cases k with
  | true =>
    rw [if_pos rfl] at q ⊢
    exact runE.mono (q σ H1 (s.keep k1) hr) fun v H' => LQ.from k1
  | false =>
    rw [if_neg Bool.false_ne_true] at q ⊢
    exact ⟨_, A1, k1, .bl, hr, q⟩
theorem wpe_one {op} (h : WPE X a δ A Q) : WPE X (.BoolOp op [a] pos) δ A Q := fun σ H s r => runE.of (pe_one pe_run) (h σ H s r)
theorem wpe_or (h : WPE X a δ A fun v A1 => ∃ k, v = .bl k ∧ if k = true then Q (.bl true) A1 else WPE X (.BoolOp .Or (b :: es) pos) δ A1 Q) : WPE X (.BoolOp .Or (a :: b :: es) pos) δ A Q := fun σ H s r => by
  refine runE.of (pe_or pe_run pe_run) (runE.mono (h σ H s r) fun v H1 ⟨d, A1, k1, rp, hr, k, e, q⟩ => ?_)
  subst e
  cases rp
  refine ⟨k, rfl, ?_⟩
  cases k with
  | true =>
    rw [if_pos rfl] at q ⊢
    exact ⟨_, A1, k1, .bl, hr, q⟩
  | false =>
    rw [if_neg Bool.false_ne_true] at q ⊢
    exact runE.mono (q σ H1 (s.keep k1) hr) fun v H' => LQ.from k1
theorem ev_and {k l : Bool} (h : Ev X a δ A (.bl k)) (h2 : k = true → Ev X (.BoolOp .And (b :: es) pos) δ A (.bl l)) : Ev X (.BoolOp .And (a :: b :: es) pos) δ A (.bl (k && l)) := fun A1 kk Q q => wpe_and (h A1 kk _ ⟨k, rfl, by
  cases k with
  | true => rw [if_pos rfl]; exact h2 rfl A1 kk Q q
  | false => rw [if_neg Bool.false_ne_true]; exact q⟩)
theorem ev_or {k l : Bool} (h : Ev X a δ A (.bl k)) (h2 : k = false → Ev X (.BoolOp .Or (b :: es) pos) δ A (.bl l)) : Ev X (.BoolOp .Or (a :: b :: es) pos) δ A (.bl (k || l)) := fun A1 kk Q q => wpe_or (h A1 kk _ ⟨k, rfl, by
  cases k with
  | true => rw [if_pos rfl]; exact q
  | false => rw [if_neg Bool.false_ne_true]; exact h2 rfl A1 kk Q q⟩)
theorem ev_not {k : Bool} (h : Ev X a δ A (.bl k)) : Ev X (.UnaryOp .Not a pos) δ A (.bl (!k)) := fun A1 kk Q q σ H s r => by
  refine runE.of (pe_not pe_run) (runE.mono (h A1 kk (fun v A2 => v = .bl k ∧ A2 = A1) ⟨rfl, rfl⟩ σ H s r) fun v H1 ⟨d, A2, k1, rp, hr, e1, e2⟩ => ?_)
  subst e1 e2
  cases rp
  exact ⟨k, rfl, _, A2, k1, .bl, hr, q⟩
/-- a if t else b -/
theorem wpe_ifx (h : WPT X c δ A fun k A1 => if k = true then WPE X a δ A1 Q else WPE X b δ A1 Q) : WPE X (.IfExp c a b pos) δ A Q := fun σ H s r => by
  refine runE.of (pe_ifExp pt_run pe_run pe_run) (runT.mono (h σ H s r) fun k H1 ⟨A1, k1, hr, q⟩ => ?_)
  cases k with
  | true =>
    rw [if_pos rfl] at q ⊢
    exact runE.mono (q σ H1 (s.keep k1) hr) fun v H' => LQ.from k1
  | false =>
    rw [if_neg Bool.false_ne_true] at q ⊢
    exact runE.mono (q σ H1 (s.keep k1) hr) fun v H' => LQ.from k1
theorem ev_ifx {k : Bool} (h : EvT X c δ A k) (h1 : k = true → Ev X a δ A d) (h2 : k = false → Ev X b δ A d) : Ev X (.IfExp c a b pos) δ A d := fun A1 kk Q q => wpe_ifx (h A1 kk _ (by
  cases k with
  | true => rw [if_pos rfl]; exact h1 rfl A1 kk Q q
  | false => rw [if_neg Bool.false_ne_true]; exact h2 rfl A1 kk Q q))

/-! ### arguments, displays -/
theorem wpa_nil {Q : LsQ} (q : Q [] A) : WPA X [] δ A Q := fun σ H s r => runA.of pa_nil ⟨[], A, Kp.refl H, .nil, r, q⟩
theorem wpa_cons {Q : LsQ} (h : WPE X e δ A fun x A1 => WPA X es δ A1 fun xs A2 => Q (x :: xs) A2) (hs : starEach (e :: es) X.env = (false, eval e X.env) :: starEach es X.env := by rfl) : WPA X (e :: es) δ A Q := fun σ H s r =>
  runA.of (pa_cons pe_run pa_run hs) (runE.mono (h σ H s r) fun v H1 ⟨d, A1, k1, rp, hr, q⟩ => runA.mono (q σ H1 (s.keep k1) hr) fun vs H2 ⟨ds, A2, k2, rps, hr2, q2⟩ => ⟨d :: ds, A2, k1.trans k2, .cons (rp.keep k2) rps, hr2, q2⟩)
theorem eva_nil : EvA X [] δ A [] := fun A1 _ Q q => wpa_nil q
theorem eva_cons {ds : List TL.D} (h : Ev X e δ A d) (h2 : EvA X es δ A ds) (hs : starEach (e :: es) X.env = (false, eval e X.env) :: starEach es X.env := by rfl) : EvA X (e :: es) δ A (d :: ds) := fun A1 k Q q => wpa_cons (h A1 k _ (h2 A1 k _ q)) hs
/-- *e: a tuple, a list -/
theorem wpa_star {Q : LsQ} {p : Pos} (h : WPE X e δ A fun x A1 => ∃ xs, (x = .tup xs ∨ ∃ l, x = .ref l ∧ A1 l = some (.prim (.lst xs))) ∧ WPA X es δ A1 fun ys A2 => Q (xs ++ ys) A2)
    (hs : starEach (.Starred e p :: es) X.env = (true, eval e X.env) :: starEach es X.env := by rfl) : WPA X (.Starred e p :: es) δ A Q := fun σ H s r => by
  refine runA.of (StX.pa_star pe_run pa_run hs) (runE.mono (h σ H s r) fun v H1 ⟨d, A1, k1, rp, hr, xs, hx, q⟩ => ?_)
  have fin : ∀ vs, Rps X.K H1 vs xs → runA X es σ H1 fun ys H2 => LA X.K H Q (vs ++ ys) H2 := fun vs hv => runA.mono (q σ H1 (s.keep k1) hr) fun ws H2 ⟨ds, A2, k2, rps, hr2, q2⟩ => ⟨xs ++ ds, A2, k1.trans k2, Paired.app (Rps.keep hv k2) rps, hr2, q2⟩
  rcases hx with rfl | ⟨l, rfl, hl⟩
  · obtain ⟨a, vs, rfl, ht, hv⟩ := rp.tup_inv
    exact ⟨a, vs, rfl, .inl ht, fin vs hv⟩
  · cases rp
    obtain ⟨vs, hH, hv⟩ := hr.at_ hl
    exact ⟨l, vs, rfl, .inr (.inl (.inl hH)), fin vs hv⟩
theorem ex_upd {H : Hp} {p : Addr} {o : HO} (n : H p = none) : ∀ a u, H a = some u → upd H p o a = some u := fun a u e => by rw [upd_ne (ne_of_none e n)]; exact e
theorem kp_ex {K : PySem.W.Frag} {H H' : Hp} (e : ∀ a u, H a = some u → H' a = some u) : Kp K H H' := fun a xs h => by
  rcases h with (h | ⟨o, h⟩) | h
  · exact .inl (.inl (e _ _ h))
  · exact .inl (.inr ⟨o, e _ _ h⟩)
  · exact .inr h
theorem wpe_tup {k} (h : WPA X es δ A fun ds A1 => ds.length ≤ sizeLine ∧ Q (.tup ds) A1) : WPE X (.Tuple es k pos) δ A Q := fun σ H s r => by
  refine runE.of (pe_tup pa_run) (runA.mono (h σ H s r) fun vs H1 ⟨ds, A1, k1, rps, hr, hl, q⟩ => ⟨by rw [Paired.length rps]; exact hl, fun p hp => ?_⟩)
  have e := ex_upd (o := .tup vs) hp
  have kk : Kp X.K H1 (upd H1 p (.tup vs)) := kp_ex e
  exact ⟨.tup ds, A1, k1.trans kk, Rp.tups (.of upd_same) (Rps.keep rps kk), hr.stay kk e, q⟩
theorem ev_tup {k} {ds : List TL.D} (h : EvA X es δ A ds) (hl : ds.length ≤ sizeLine := by decide) : Ev X (.Tuple es k pos) δ A (.tup ds) := fun A1 kk Q q => wpe_tup (h A1 kk _ ⟨hl, q⟩)
theorem wpe_lst (h : WPA X es δ A fun ds A1 => ds.length ≤ sizeLine ∧ ∀ p, A1 p = none → Q (.ref p) (updA A1 p (.prim (.lst ds)))) : WPE X (.List es pos) δ A Q := fun σ H s r => by
  refine runE.of (pe_lst pa_run) (runA.mono (h σ H s r) fun vs H1 ⟨ds, A1, k1, rps, hr, hl, q⟩ => ⟨by rw [Paired.length rps]; exact hl, fun p hp => ?_⟩)
  have e := ex_upd (o := .lst vs) hp
  have kk : Kp X.K H1 (upd H1 p (.lst vs)) := kp_ex e
  exact ⟨.ref p, _, k1.trans kk, .ref, hr.new (o := .lst ds) hp kk e ⟨vs, upd_same, Rps.keep rps kk⟩, q p (hr.free hp)⟩
theorem evn_lst {ds : List TL.D} (h : EvA X es δ A ds) (hl : ds.length ≤ sizeLine := by decide) : EvN X (.List es pos) δ A (.lst ds) := fun A1 kk Q q => wpe_lst (h A1 kk _ ⟨hl, q⟩)

/-! ### statements -/
theorem wpb_nil (q : D.nx δ A) : WPB X [] δ A D := fun σ H s r => runB.of pss_nil ⟨δ, A, Kp.refl H, s, r, q⟩
theorem LE.from {K : PySem.W.Frag} {H H1 : Hp} {σ : St} {sts : List Stmt} (k : Kp K H H1) (h : runB X sts (LE K H1 D) σ H1) : runB X sts (LE K H D) σ H1 :=
  runB.mono h (fun _ _ => LN.from k) (fun _ _ => LQ.from k) (fun _ _ => LN.from k) (fun _ _ => LN.from k)
theorem wpb_cons (h : WPS X st δ A { D with nx := fun δ1 A1 => WPB X rest δ1 A1 D }) : WPB X (st :: rest) δ A D := fun σ H s r => by
  refine runB.of (pss_cons ps_run pss_run) ?_
  exact runS.mono (h σ H s r) (fun σ1 H1 ⟨δ1, A1, k1, s1, hr, q⟩ => LE.from k1 (q σ1 H1 s1 hr)) (fun _ _ q => q) (fun _ _ q => q) fun _ _ q => q
theorem wps_pass (q : D.nx δ A) : WPS X (.Pass pos) δ A D := fun σ H s r => runS.of ps_pass ⟨δ, A, Kp.refl H, s, r, q⟩
theorem wps_break (q : D.bk δ A) : WPS X (.Break pos) δ A D := fun σ H s r => runS.of ps_break ⟨δ, A, Kp.refl H, s, r, q⟩
theorem wps_cont (q : D.ct δ A) : WPS X (.Continue pos) δ A D := fun σ H s r => runS.of ps_continue ⟨δ, A, Kp.refl H, s, r, q⟩
theorem wps_doc {s j pos'} (q : D.nx δ A) : WPS X (.Expr (.Constant (.str s) j pos') pos) δ A D := fun σ H s r => runS.of ps_doc ⟨δ, A, Kp.refl H, s, r, q⟩
theorem wps_expr (h : WPE X e δ A fun _ A1 => D.nx δ A1) (hs : swapsWith e none pos.line X.env = pure false := by rfl) : WPS X (.Expr e pos) δ A D := fun σ H s r =>
  runS.of (ps_expr pe_run hs) (runE.mono (h σ H s r) fun v H1 ⟨d, A1, k1, rp, hr, q⟩ => ⟨δ, A1, k1, s.keep k1, hr, q⟩)
theorem wps_ret (h : WPE X e δ A D.rt) : WPS X (.Return (some e) pos) δ A D := fun σ H s r => runS.of (ps_ret pe_run) (h σ H s r)
theorem wps_retN (q : D.rt .non A) : WPS X (.Return none pos) δ A D := fun σ H s r => runS.of ps_retN ⟨.non, A, Kp.refl H, .non, r, q⟩
theorem wps_if {p q : List Stmt} (h : WPT X c δ A fun k A1 => if k = true then WPB X p δ A1 D else WPB X q δ A1 D) : WPS X (.If c p q pos) δ A D := fun σ H s r => by
  refine runS.of (ps_if pt_run pss_run pss_run) (runT.mono (h σ H s r) fun k H1 ⟨A1, k1, hr, q⟩ => ?_)
  cases k with
  | true => rw [if_pos rfl] at q ⊢; exact LE.from k1 (q σ H1 (s.keep k1) hr)
  | false => rw [if_neg Bool.false_ne_true] at q ⊢; exact LE.from k1 (q σ H1 (s.keep k1) hr)
/-- an if whose test is known by its value -/
theorem wps_ifE {p q : List Stmt} {k : Bool} (h : EvT X c δ A k) (h1 : k = true → WPB X p δ A D) (h2 : k = false → WPB X q δ A D) : WPS X (.If c p q pos) δ A D := wps_if (h.wp (by
  cases k with
  | true => rw [if_pos rfl]; exact h1 rfl
  | false => rw [if_neg Bool.false_ne_true]; exact h2 rfl))
theorem SC.set {s : Str} {i : Nat} {pos' : Pos} (B : SC X N sc) (hN : N[i]? = some s) (hl : Loc sc s) (h : WPE X e δ A fun d A1 => D.nx (δ.set i (some d)) A1) (hs : swapsWith e (some (.Name s pos')) pos.line X.env = pure false := by rfl) :
    WPS X (.Assign [.Name s pos'] e pos) δ A D := fun σ H sl r =>
  runS.of (ps_set B.nd (by rw [B.n]; exact hN) (by rw [B.sc]; exact hl) pe_run hs (.inl (B.fn s))) (runE.mono (h σ H sl r) fun v H1 ⟨d, A1, k1, rp, hr, q⟩ => ⟨δ.set i (some d), A1, k1, (sl.keep k1).set i rp, hr, q⟩)

/-! ### targets -/
def WPG (X : Cx) (tg : Expr) (d : TL.D) (δ : Ds) (A : AH) (N : Ds → AH → Prop) : Prop := ∀ v σ H, Rp X.K H v d → Sl X.K H σ δ → HR X.K A H → runG X tg v σ H (LN X.K H N)
theorem SC.tn {s : Str} {i : Nat} {M : Ds → AH → Prop} (B : SC X N sc) (hN : N[i]? = some s) (hl : Loc sc s) (q : M (δ.set i (some d)) A) : WPG X (.Name s pos) d δ A M := fun v σ H rp sl r pins s' u I rv =>
  (pg_name B.nd (by rw [B.n]; exact hN) (by rw [B.sc]; exact hl) (.inl (B.fn s))).run pins s' σ H v u _ I rv ⟨δ.set i (some d), A, Kp.refl H, sl.set i rp, r, q⟩
def WPGs (X : Cx) (ts : List Expr) (ds : List TL.D) (δ : Ds) (A : AH) (M : Ds → AH → Prop) : Prop := ∃ t, PGs X ts t ∧ ∀ vs σ H, Rps X.K H vs ds → Sl X.K H σ δ → HR X.K A H → ∀ R : St → Hp → Prop, (∀ σ' H', LN X.K H M σ' H' → R σ' H') → t vs σ H R
theorem wpgs_nil {M : Ds → AH → Prop} (q : M δ A) : WPGs X [] [] δ A M := ⟨gNil, pgs_nil, fun vs σ H h s r R k => ⟨rps_nil h, k σ H ⟨δ, A, Kp.refl H, s, r, q⟩⟩⟩
theorem SC.tns {s : Str} {i : Nat} {ts : List Expr} {ds : List TL.D} {M : Ds → AH → Prop} (B : SC X N sc) (hN : N[i]? = some s) (hl : Loc sc s) (h : WPGs X ts ds (δ.set i (some d)) A M)
    (hs : (assignEach (.Name s pos :: ts) X.env).map (·.2) = assign (.Name s pos) X.env :: (assignEach ts X.env).map (·.2) := by rfl) : WPGs X (.Name s pos :: ts) (d :: ds) δ A M := by
  obtain ⟨t, h1, h2⟩ := h
  refine ⟨gCons (gName i) t, pgs_cons (pg_name B.nd (by rw [B.n]; exact hN) (by rw [B.sc]; exact hl) (.inl (B.fn s))) h1 hs, fun vs σ H hv sl r R k => ?_⟩
  obtain ⟨v, rest, rfl, rp, hv⟩ := rps_cons hv
  exact ⟨v, rest, rfl, h2 rest _ H hv (sl.set i rp) r R k⟩
theorem BC.tt {ts : List Expr} {ds : List TL.D} {k : Nat} {M : Ds → AH → Prop} (B : BC X N sc) (h : WPGs X ts ds δ A M) (hn : (assignEach ts X.env).length = ds.length := by rfl) (hst : (assignEach ts X.env).findIdx? (·.1) = none := by rfl) : WPG X (.Tuple ts k pos) (.tup ds) δ A M := fun v σ H rp sl r pins s' u I rv => by
  obtain ⟨t, h1, h2⟩ := h
  obtain ⟨a, vs, rfl, ht, hv⟩ := rp.tup_inv
  exact (pg_tup B.calm h1 hn hst).run pins s' σ H _ u _ I rv ⟨a, vs, rfl, ht, Paired.length hv, h2 vs σ H hv sl r _ fun _ _ q => q⟩
theorem wps_asg {tg : Expr} (h : WPE X e δ A fun d A1 => WPG X tg d δ A1 D.nx) (hs : swapsWithSole [tg] e pos.line X.env = pure false := by rfl) (hw : swappedStores [tg] e X.env = pure none := by rfl)
    (h1 : (assignEach [tg] X.env).map (·.2) = [assign tg X.env] := by rfl) : WPS X (.Assign [tg] e pos) δ A D := fun σ H s r => by
  refine runS.of (ps_asg pe_run pg_run hs hw h1) (runE.mono (h σ H s r) fun v H1 ⟨d, A1, k1, rp, hr, q⟩ => fun pins s' u I rv => thn (q v σ H1 rp (s.keep k1) hr pins s' u I rv) fun _ s2 ⟨σ', H', I', q'⟩ => ⟨σ', H', I', LN.from k1 q'⟩)

/-! ### what is walked -/
def runI (X : Cx) (tg iter : Expr) : TI := fun σ H R => ∀ pins s, Inv X pins σ H s → wpAny (model X.prog X.w) X.A (eval iter X.env) (fun v s1 => wpAny (model X.prog X.w) X.A (pyIter v) (PIE X pins σ tg R) X.xe s1) X.xe s
theorem pi_run {tg iter : Expr} : PI X tg iter (runI X tg iter) := ⟨fun pins s σ H R I h => h pins s I⟩
theorem runI.of {tg iter : Expr} {t : TI} (h : PI X tg iter t) {σ : St} {H : Hp} {R : It → Hp → Prop} (q : t σ H R) : runI X tg iter σ H R := fun pins s I => h.run pins s σ H R I q
/-- what a turn gives: f i as a tree, all that is seen stands -/
def TY (K : PySem.W.Frag) (f : Nat → TL.D) : Nat → Hp → V → Hp → Prop := fun i H v H' => Kp K H H' ∧ (∀ A, HR K A H → HR K A H') ∧ Rp K H' v (f i)
abbrev RW := Nat → (Nat → TL.D) → (AH → Prop) → AH → Prop
def WPI (X : Cx) (tg iter : Expr) (δ : Ds) (A : AH) (R : RW) : Prop := ∀ σ H, Sl X.K H σ δ → HR X.K A H → ∀ R0 : It → Hp → Prop,
  (∀ J H1 n f G A1 (YG : Hp → Prop), Kp X.K H H1 → HR X.K A1 H1 → Walk J n YG (TY X.K f) → (∀ A' H', Kp X.K H1 H' → HR X.K A' H' → G A' → YG H') → R n f G A1 → R0 J H1) → runI X tg iter σ H R0
theorem getD_of {α : Type} {xs : List α} {i : Nat} {x z : α} (h : xs[i]? = some x) : xs.getD i z = x := by simp [List.getD, h]
theorem walk_lstT {K : PySem.W.Frag} {p : Addr} {xs : List TL.D} : Walk (Itl K p) xs.length (fun H => ∃ vs, SqL K H p vs ∧ Rps K H vs xs) (TY K fun i => xs.getD i .non) where
  goes := fun i H hi ⟨vs, h, r⟩ => by
    have hl := Paired.length r
    exact ⟨vs, vs[i]'(by omega), h, by simp⟩
  stops := fun H ⟨vs, h, r⟩ => ⟨vs, h, Nat.le_of_eq (Paired.length r)⟩
  yields := fun i H x H' hi ⟨vs, h, r⟩ ⟨e, y⟩ => by
    subst e
    have hx := y vs h
    obtain ⟨d, hd, rp⟩ := Paired.get0 r hx
    refine ⟨Kp.refl _, fun _ q => q, ?_⟩
    show Rp K H' x (xs.getD i .non)
    rw [getD_of hd]; exact rp
theorem wpi_list {tg : Expr} {R : RW} (h : WPE X e δ A fun d A1 => ∃ p xs, d = .ref p ∧ A1 p = some (.prim (.lst xs)) ∧ R xs.length (fun i => xs.getD i .non) (fun A' => A' p = some (.prim (.lst xs))) A1) : WPI X tg e δ A R := fun σ H s r R0 k => by
  refine runI.of (pi_list pe_run) (runE.mono (h σ H s r) fun v H1 ⟨d, A1, k1, rp, hr, p, xs, e, hp, q⟩ => ?_)
  subst e
  cases rp
  obtain ⟨vs, hv, rv⟩ := hr.at_ hp
  refine ⟨p, rfl, ⟨vs, .of hv⟩, k _ H1 xs.length _ _ A1 _ k1 hr walk_lstT (fun A' H' _ hr' hp' => ?_) q⟩
  obtain ⟨ws, hw, rw'⟩ := hr'.at_ hp'
  exact ⟨ws, .of hw, rw'⟩
theorem walk_tupT {K : PySem.W.Frag} {p : Addr} {xs : List TL.D} : Walk (Itt K p) xs.length (fun H => ∃ vs, SqT K H p vs ∧ Rps K H vs xs) (TY K fun i => xs.getD i .non) where
  goes := fun i H hi ⟨vs, h, r⟩ => by
    have hl := Paired.length r
    exact ⟨vs, vs[i]'(by omega), h, by simp⟩
  stops := fun H ⟨vs, h, r⟩ => ⟨vs, h, Nat.le_of_eq (Paired.length r)⟩
  yields := fun i H x H' hi ⟨vs, h, r⟩ ⟨e, y⟩ => by
    subst e
    have hx := y vs h
    obtain ⟨d, hd, rp⟩ := Paired.get0 r hx
    refine ⟨Kp.refl _, fun _ q => q, ?_⟩
    show Rp K H' x (xs.getD i .non)
    rw [getD_of hd]; exact rp
theorem walk_rngT {K : PySem.W.Frag} {lo : Int} {n : Nat} : Walk (Itr lo n) n (fun _ => True) (TY K fun i => .int (lo + i)) :=
  walk_range.mono (fun _ h => h) fun i H x H' hi _ ⟨e, y⟩ => by subst e y; exact ⟨Kp.refl _, fun _ q => q, .int⟩
theorem wpi_range1 {tg : Expr} {p : Pos} {R : RW} (B : BC X N sc) (hg : sc.names.lookup ("range" : Str) = some .globalImplicit) (hm : X.mg "range" = none) (h : WPE X a δ A fun d A1 => ∃ n : Int, d = .int n ∧ n < 2 ^ 62 ∧ -(2 ^ 62) ≤ n ∧ R n.toNat (fun i => .int (0 + i)) (fun _ => True) A1)
    (hs : starEach [a] X.env = [(false, eval a X.env)] := by rfl) : WPI X tg (.Call (.Name "range" p) [a] [] pos) δ A R := fun σ H s r R0 k => by
  refine runI.of (pi_range1 (B.gl hg) hm (pa_cons pe_run pa_nil hs) hs) (runE.mono (h σ H s r) fun v H1 ⟨d, A1, k1, rp, hr, n, e, h1, h2, q⟩ => ?_)
  subst e
  cases rp
  exact ⟨n, rfl, h2, h1, k _ H1 n.toNat _ _ A1 _ k1 hr walk_rngT (fun _ _ _ _ _ => trivial) q⟩
theorem wpi_str {tg : Expr} {R : RW} (h : WPE X e δ A fun d A1 => ∃ z : Str, d = .str z ∧ R z.cps.size (fun i => .str ⟨#[z.cps.getD i 0]⟩) (fun _ => True) A1) : WPI X tg e δ A R := fun σ H s r R0 k => by
  refine runI.of (pi_str pe_run) (runE.mono (h σ H s r) fun v H1 ⟨d, A1, k1, rp, hr, z, e, q⟩ => ?_)
  subst e
  cases rp
  refine ⟨z, rfl, k _ H1 z.cps.size _ _ A1 (fun _ => True) k1 hr (walk_str.mono (fun _ h => h) fun i H x H' hi _ ⟨e, c, hc, y⟩ => ?_) (fun _ _ _ _ _ => trivial) q⟩
  subst e y
  refine ⟨Kp.refl _, fun _ q => q, ?_⟩
  show Rp X.K H' (.str ⟨#[c]⟩) (.str ⟨#[z.cps.getD i 0]⟩)
  have : z.cps.getD i 0 = c := by simp [Array.getD_eq_getD_getElem?, hc]
  rw [this]; exact .str
/-- a tuple is walked -/
theorem wpi_tup {tg : Expr} {R : RW} (h : WPE X e δ A fun d A1 => ∃ xs, d = .tup xs ∧ R xs.length (fun i => xs.getD i .non) (fun _ => True) A1) : WPI X tg e δ A R := fun σ H s r R0 k => by
  refine runI.of (pi_tup pe_run) (runE.mono (h σ H s r) fun v H1 ⟨d, A1, k1, rp, hr, xs, e, q⟩ => ?_)
  subst e
  obtain ⟨a, vs, rfl, ht, hv⟩ := rp.tup_inv
  exact ⟨a, rfl, ⟨vs, ht⟩, k _ H1 xs.length _ _ A1 (fun H => ∃ vs, SqT X.K H a vs ∧ Rps X.K H vs xs) k1 hr walk_tupT (fun A' H' kp _ _ => ⟨vs, kp _ _ ht, Rps.keep hv kp⟩) q⟩

/-! ### for -/
def WV (W : Nat → Ds → AH → Prop) (i : Nat) : Ds → AH → Prop := fun δ A => ∃ A', Vw A A' ∧ W i δ A'
theorem SC.for_ {tg iter : Expr} {body : List Stmt} (B : SC X N sc) (h : WPI X tg iter δ A fun n f G A1 => ∃ W : Nat → Ds → AH → Prop, W 0 δ A1 ∧ (∀ i δ' A', i ≤ n → W i δ' A' → G A') ∧
      (∀ i δ' A', i < n → W i δ' A' → WPG X tg (f i) δ' A' fun δ2 A2 => WPB X body δ2 A2 { nx := WV W (i + 1), ct := WV W (i + 1), bk := D.nx, rt := D.rt }) ∧ (∀ δ' A', W n δ' A' → D.nx δ' A'))
    (hs : ∀ x, foldedSetIterable iter X.env x = pure x := by intro _; rfl) : WPS X (.For tg iter body [] pos) δ A D := fun σ H s r => by
  refine runS.of (ps_for B.po B.calm pi_run pg_run pss_run hs) (h σ H s r _ fun J H1 n f G A1 YG k1 hr1 wk hG ⟨W, h0, hg, hstep, hend⟩ => ?_)
  refine for_it (g := runG X tg) (tb := runB X body) (D := LE X.K H D) wk (fun i σ' H' => ∃ δ' A', Kp X.K H1 H' ∧ Sl X.K H' σ' δ' ∧ HR X.K A' H' ∧ W i δ' A') ⟨δ, A1, Kp.refl H1, s.keep k1, hr1, h0⟩ (fun i σ' H' hi ⟨δ', A', k, _, hr, w⟩ => hG A' H' k hr (hg i δ' A' hi w)) (fun i x σ' H' H'' hi ⟨δ', A', k, sl, hr, w⟩ ⟨ky, ay, rp⟩ => ?_) fun σ' H' ⟨δ', A', k, sl, hr, w⟩ => ⟨δ', A', k1.trans k, sl, hr, hend δ' A' w⟩
  have hr' := ay A' hr
  refine fun pins s' u I rv => thn (hstep i δ' A' hi w x σ' H'' rp (sl.keep ky) hr' pins s' u I rv) fun _ s2 ⟨σ2, H2, I2, δ2, A2, k2, sl2, hr2, q⟩ => ⟨σ2, H2, I2, ?_⟩
  have kk : Kp X.K H1 H2 := (k.trans ky).trans k2
  refine runB.mono (q σ2 H2 sl2 hr2) (fun σ3 H3 ⟨δ3, A3, k3, sl3, hr3, A4, v4, w4⟩ => ⟨δ3, A4, kk.trans k3, sl3, v4 _ _ hr3, w4⟩) (fun _ _ => LQ.from (k1.trans kk)) (fun _ _ => LN.from (k1.trans kk)) fun σ3 H3 ⟨δ3, A3, k3, sl3, hr3, A4, v4, w4⟩ => ⟨δ3, A4, kk.trans k3, sl3, v4 _ _ hr3, w4⟩
end TL
/-! The tree layer: lists, dicts, attributes, calls, defs, comprehensions. -/
namespace TL
open PySem PySem.Spec PyProof.Rows L2
variable {X : Cx} {N : List Str} {sc : Scope} {e a b c o i_ : Expr} {es : List Expr} {st : Stmt} {rest : List Stmt} {δ : Ds} {A : AH} {Q : TQ} {D : TEnds} {d x y z : TL.D} {pos apos p_ : Pos}

/-! ### lists by values -/
theorem atI_rp {K : PySem.W.Frag} {H : Hp} {vs : List V} {xs : List TL.D} {i : Int} (r : Rps K H vs xs) (h : atI xs i = some d) : ∃ v, atI vs i = some v ∧ Rp K H v d := by
  unfold atI at h ⊢
  rw [Paired.length r]
  cases e : ixN xs.length i with
  | none => rw [e] at h; cases h
  | some j =>
    rw [e] at h
    obtain ⟨v, h1, h2⟩ := Paired.get1 r (show xs[j]? = some d from h)
    exact ⟨v, h1, h2⟩
/-- what a list at p holds, to be read: one of ours, a locked one, one of the module's -/
def RdL (K : PySem.W.Frag) (A : AH) (p : Addr) (xs : List TL.D) : Prop := A p = some (.prim (.lst xs)) ∨ A p = some (.prim (.ro xs)) ∨ ∃ vs, (∀ H, SqL K H p vs) ∧ ∀ H, Rps K H vs xs
theorem RdL.sq {K : PySem.W.Frag} {H : Hp} {p : Addr} {xs : List TL.D} (h : RdL K A p xs) (hr : HR K A H) : ∃ vs, SqL K H p vs ∧ Rps K H vs xs := by
  rcases h with h | h | ⟨vs, h1, h2⟩
  · obtain ⟨vs, h1, h2⟩ := hr.at_ h; exact ⟨vs, .of h1, h2⟩
  · obtain ⟨vs, o, h1, h2⟩ := hr.at_ h; exact ⟨vs, .inl (.inr ⟨o, h1⟩), h2⟩
  · exact ⟨vs, h1 H, h2 H⟩
theorem RdL.sub {K : PySem.W.Frag} {A' : AH} {p : Addr} {xs : List TL.D} (h : RdL K A p xs) (k : Sub A A') : RdL K A' p xs := by
  rcases h with h | h | h
  · exact .inl (k _ _ h)
  · exact .inr (.inl (k _ _ h))
  · exact .inr (.inr h)
/-- subscripts by values -/
def IxV (X : Cx) (x y : TL.D) (A : AH) (z : TL.D) : Prop := ∃ r, IxR X r ∧ ∀ A1, Sub A A1 → ∀ H vx vy, HR X.K A1 H → Rp X.K H vx x → Rp X.K H vy y → ∀ R : VK, (∀ v, Rp X.K H v z → R v H) → r vx vy H R
theorem ev_ix (ha : Ev X a δ A x) (hb : Ev X b δ A y) (ho : IxV X x y A z) (hs : PlainIx b := by exact fun _ _ => rfl) : Ev X (.Subscript a b pos) δ A z := fun A1 k Q q σ H s r => by
  obtain ⟨rr, h1, h2⟩ := ho
  refine runE.of (pe_ix h1 pe_run pe_run hs) (runE.mono (wpe_two (R := fun x' y' A2 => x' = x ∧ y' = y ∧ A2 = A1) (ha A1 k _ (hb A1 k _ ⟨rfl, rfl, rfl⟩)) s r) fun vx H1 h => runE.mono h fun vy H2 hh => ?_)
  obtain ⟨x', y', A2, k2, rx, ry, r2, rfl, rfl, rfl⟩ := hh
  exact h2 _ k H2 vx vy r2 rx ry _ fun v rp => ⟨z, A2, k2, rp, r2, q⟩
theorem ixv_list {p : Addr} {xs : List TL.D} {i : Int} (h : RdL X.K A p xs) (hi : atI xs i = some z) : IxV X (.ref p) (.int i) A z := ⟨_, ix_list, fun A1 k H vx vy hr rx ry R q => by
  cases rx; cases ry
  obtain ⟨vs, h1, h2⟩ := (h.sub k).sq hr
  obtain ⟨v, e, rv⟩ := atI_rp h2 hi
  exact ⟨p, vs, i, v, rfl, rfl, h1, e, q v rv⟩⟩
theorem ixv_tup {xs : List TL.D} {i : Int} (hi : atI xs i = some z) : IxV X (.tup xs) (.int i) A z := ⟨_, ix_tup, fun A1 k H vx vy hr rx ry R q => by
  obtain ⟨p, vs, rfl, h1, h2⟩ := rx.tup_inv
  cases ry
  obtain ⟨v, e, rv⟩ := atI_rp h2 hi
  exact ⟨p, vs, i, v, rfl, rfl, h1, e, q v rv⟩⟩
theorem ixv_str {s : Str} {i : Int} {ch : Nat} (hl : s.length ≤ sizeLine) (hi : atI s.cps.toList i = some ch) : IxV X (.str s) (.int i) A (.str ⟨#[ch]⟩) := ⟨_, ix_str, fun A1 k H vx vy hr rx ry R q => by
  cases rx; cases ry
  exact ⟨s, i, ch, rfl, rfl, hl, hi, q _ .str⟩⟩
/-- slices of lists -/
def cutD {α : Type} (xs : List α) (lo hi : Option Int) : List α := (xs.drop (HT.sIx xs.length 0 lo)).take (HT.sIx xs.length xs.length hi - HT.sIx xs.length 0 lo)
theorem cut_rp {K : PySem.W.Frag} {H : Hp} {vs : List V} {xs : List TL.D} {lo hi : Option Int} (r : Rps K H vs xs) : Rps K H (cutV vs lo hi) (cutD xs lo hi) := by
  unfold cutV cutD
  rw [Paired.length r]
  exact Paired.take_ _ (Paired.drop_ _ r)
inductive EvP (X : Cx) (δ : Ds) (A : AH) : Option Expr → Option Int → Prop where
  | none : EvP X δ A none none
  | some {e : Expr} {i : Int} : Ev X e δ A (.int i) → EvP X δ A (some e) (some i)
def runP (X : Cx) (e : Option Expr) : TO := fun σ H Q => ∀ pins s, Inv X pins σ H s → wpAny (model X.prog X.w) X.A (evalPart e X.env) (fun u s' => ∃ o H', Inv X pins σ H' s' ∧ IsPart u o ∧ Q o H') X.xe s
theorem po_run {e : Option Expr} : PO X e (runP X e) := ⟨fun pins s σ H Q I h => h pins s I⟩
theorem EvP.go {e : Option Expr} {o : Option Int} (h : EvP X δ A e o) {A1 : AH} (k : Sub A A1) {σ : St} {H : Hp} (s : Sl X.K H σ δ) (r : HR X.K A1 H) : runP X e σ H fun o' H1 => o' = o ∧ Kp X.K H H1 ∧ HR X.K A1 H1 := by
  cases h with
  | none => exact fun pins s' I => po_none.run pins s' σ H _ I ⟨rfl, Kp.refl H, r⟩
  | @some e' i h =>
    refine fun pins s' I => (po_some pe_run).run pins s' σ H _ I (show tPart (runE X e') σ H _ from ?_)
    exact runE.mono (h A1 k (fun v A2 => v = .int i ∧ A2 = A1) ⟨rfl, rfl⟩ σ H s r) fun v H1 ⟨d, A2, k1, rp, hr, e1, e2⟩ => by subst e1 e2; cases rp; exact ⟨i, rfl, rfl, k1, hr⟩
theorem evn_slice {lo hi : Option Expr} {l h : Option Int} {p : Addr} {xs : List TL.D} {p2 : Pos} (ha : Ev X a δ A (.ref p)) (hl : EvP X δ A lo l) (hh : EvP X δ A hi h) (hp : RdL X.K A p xs) : EvN X (.Subscript a (.Slice lo hi none p2) pos) δ A (.lst (cutD xs l h)) := fun A1 k Q q σ H s r => by
  refine runE.of (pe_slice sl_list pe_run po_run po_run) (runE.mono (ha A1 k (fun v A2 => v = .ref p ∧ A2 = A1) ⟨rfl, rfl⟩ σ H s r) fun v H1 ⟨d, A2, k1, rp, hr, e1, e2⟩ => ?_)
  subst e1 e2
  cases rp
  refine fun pins s' I => thn (hl.go k (s.keep k1) hr pins s' I) fun u s1 ⟨o1, H2, I2, pl, e1, k2, hr2⟩ => ⟨o1, H2, I2, pl, ?_⟩
  subst e1
  refine fun pins s' I => thn (hh.go k ((s.keep k1).keep k2) hr2 pins s' I) fun u s1 ⟨o2, H3, I3, pl, e2, k3, hr3⟩ => ⟨o2, H3, I3, pl, ?_⟩
  subst e2
  obtain ⟨vs, h1, h2⟩ := (hp.sub k).sq hr3
  refine ⟨p, vs, rfl, h1, fun q' hq => ?_⟩
  have ex := ex_upd (o := .lst (cutV vs o1 o2)) hq
  have kk : Kp X.K H3 (upd H3 q' (.lst (cutV vs o1 o2))) := kp_ex ex
  exact ⟨.ref q', _, ((k1.trans k2).trans k3).trans kk, .ref, hr3.new (o := .lst (cutD xs o1 o2)) hq kk ex ⟨_, upd_same, Rps.keep (cut_rp h2) kk⟩, q q' (hr3.free hq)⟩
/-- xs + ys -/
theorem opn_cat {p q : Addr} {xs ys : List TL.D} (hp : A p = some (.prim (.lst xs))) (hq : A q = some (.prim (.lst ys))) (hl : xs.length + ys.length ≤ sizeLine) : OpN X (binaryOp .Add) (.ref p) (.ref q) A (.lst (xs ++ ys)) := fun A1 k Q qq =>
  ⟨_, op_cat, fun H vx vy hr rx ry R hR => by
    cases rx; cases ry
    obtain ⟨vs, h1, r1⟩ := hr.at_ (k _ _ hp)
    obtain ⟨ws, h2, r2⟩ := hr.at_ (k _ _ hq)
    refine ⟨p, q, vs, ws, rfl, rfl, h1, h2, by rw [Paired.length r1, Paired.length r2]; exact hl, fun n hn => ?_⟩
    have ex := ex_upd (o := .lst (vs ++ ws)) hn
    have kk : Kp X.K H (upd H n (.lst (vs ++ ws))) := kp_ex ex
    exact hR (.ref n) _ (.ref n) _ kk .ref (hr.new (o := .lst (xs ++ ys)) hn kk ex ⟨_, upd_same, Rps.keep (Paired.app r1 r2) kk⟩) (qq n (hr.free hn))⟩
section
variable {α : Type} [DecidableEq α] [PySem.W.Datum α] [Tree α]
/-- x in ys, x not in ys: ys of one type -/
theorem opr_datum {f : Value → Value → Sem Value} {x y : TL.D} {A : AH} {k : Bool} (h : ∀ pins s σ H vx vy v u A1, Sub A A1 → Inv X pins σ H s → HR X.K A1 H → Rp X.K H vx x → Rp X.K H vy y → RelV vx v → RelV vy u → ∀ Q : Value → Shared → Prop, Q (.bool k) s → wpAny (model X.prog X.w) X.A (f v u) Q X.xe s) :
    OpV X f x y A (.bl k) := fun A1 kk Q q => ⟨fun vx vy H R => HR X.K A1 H ∧ Rp X.K H vx x ∧ Rp X.K H vy y ∧ R (.bl k) H, fun pins s σ H vx vy v u R I rx ry ⟨hr, h1, h2, hR⟩ => h pins s σ H vx vy v u A1 kk I hr h1 h2 rx ry _ ⟨.bl k, H, I, rfl, hR⟩,
    fun H vx vy hr h1 h2 R hR => ⟨hr, h1, h2, hR _ H (.bl k) A1 (Kp.refl H) .bl hr q⟩⟩
theorem opv_inL {p : Addr} {ys : List α} {x : α} (hp : A p = some (.prim (.lst (ys.map Tree.enc)))) (hu : X.A.units + 1 + PySem.W.Datum.depth α < cLine) : OpV X (compareOp .In) (Tree.enc x) (.ref p) A (.bl (decide (x ∈ ys))) :=
  opr_datum fun pins s σ H vx vy v u A1 k I hr h1 h2 rx ry Q q => by
    cases h2; cases ry
    obtain ⟨vs, hv, rv⟩ := hr.at_ (k _ _ hp)
    obtain ⟨its, r, pl, hz⟩ := I.list (.of hv)
    exact PySem.W.in_list_datum pl.isList (by simpa using holdsAll I r rv) (Tree.holds I rx h1) hu q
theorem opv_notInL {p : Addr} {ys : List α} {x : α} (hp : A p = some (.prim (.lst (ys.map Tree.enc)))) (hu : X.A.units + 1 + PySem.W.Datum.depth α < cLine) : OpV X (compareOp .NotIn) (Tree.enc x) (.ref p) A (.bl (decide (x ∉ ys))) :=
  opr_datum fun pins s σ H vx vy v u A1 k I hr h1 h2 rx ry Q q => by
    cases h2; cases ry
    obtain ⟨vs, hv, rv⟩ := hr.at_ (k _ _ hp)
    obtain ⟨its, r, pl, hz⟩ := I.list (.of hv)
    exact PySem.W.notIn_list_datum pl.isList (by simpa using holdsAll I r rv) (Tree.holds I rx h1) hu q
theorem opv_eq {x y : α} (hu : X.A.units + PySem.W.Datum.depth α < cLine) : OpV X (compareOp .Eq) (Tree.enc x) (Tree.enc y) A (.bl (decide (x = y))) :=
  opr_datum fun pins s σ H vx vy v u A1 k I hr h1 h2 rx ry Q q => PySem.W.eq_datum (Tree.holds I rx h1) (Tree.holds I ry h2) hu q
theorem opv_ne {x y : α} (hu : X.A.units + PySem.W.Datum.depth α < cLine) : OpV X (compareOp .NotEq) (Tree.enc x) (Tree.enc y) A (.bl (decide (x ≠ y))) :=
  opr_datum fun pins s σ H vx vy v u A1 k I hr h1 h2 rx ry Q q => PySem.W.ne_datum (Tree.holds I rx h1) (Tree.holds I ry h2) hu q
theorem listHolds {pins : List (Addr × Obj)} {s : Shared} {σ : St} {H : Hp} {p : Addr} {ys : List α} (I : Inv X pins σ H s) (hr : HR X.K A H) (hp : A p = some (.prim (.lst (ys.map Tree.enc)))) : PySem.W.Holds s.heap (.ref p) ys := by
  obtain ⟨vs, hv, rv⟩ := hr.at_ hp
  obtain ⟨its, r, pl, hz⟩ := I.list (.of hv)
  exact PySem.W.holds_list pl.isList (by simpa using holdsAll I r rv)
theorem opv_eqL {p q : Addr} {xs ys : List α} (hp : A p = some (.prim (.lst (xs.map Tree.enc)))) (hq : A q = some (.prim (.lst (ys.map Tree.enc)))) (hu : X.A.units + (PySem.W.Datum.depth α + 1) < cLine) : OpV X (compareOp .Eq) (.ref p) (.ref q) A (.bl (decide (xs = ys))) :=
  opr_datum fun pins s σ H vx vy v u A1 k I hr h1 h2 rx ry Q qq => by cases h1; cases h2; cases rx; cases ry; exact PySem.W.eq_datum (listHolds I hr (k _ _ hp)) (listHolds I hr (k _ _ hq)) hu qq
theorem opv_neL {p q : Addr} {xs ys : List α} (hp : A p = some (.prim (.lst (xs.map Tree.enc)))) (hq : A q = some (.prim (.lst (ys.map Tree.enc)))) (hu : X.A.units + (PySem.W.Datum.depth α + 1) < cLine) : OpV X (compareOp .NotEq) (.ref p) (.ref q) A (.bl (decide (xs ≠ ys))) :=
  opr_datum fun pins s σ H vx vy v u A1 k I hr h1 h2 rx ry Q qq => by cases h1; cases h2; cases rx; cases ry; exact PySem.W.ne_datum (listHolds I hr (k _ _ hp)) (listHolds I hr (k _ _ hq)) hu qq
end
/-- a sign in a text -/
theorem opv_inS {ch : Nat} {s : Str} : OpV X (compareOp .In) (.str ⟨#[ch]⟩) (.str s) A (.bl (decide (ch ∈ s.cps.toList))) :=
  opv_of op_in_sign fun A1 _ H vx vy hr rx ry R q => by cases rx; cases ry; exact ⟨ch, s, rfl, rfl, q _ .bl⟩

/-! ### built-in calls by values -/
def CaW (X : Cx) (f : Value) (ds : List TL.D) (A : AH) (Q : TQ) : Prop := ∃ r, CallR X f r ∧ ∀ H vs, HR X.K A H → Rps X.K H vs ds → ∀ R : VK, (∀ v H' d A', Kp X.K H H' → Rp X.K H' v d → HR X.K A' H' → Q d A' → R v H') → r vs H R
def CaV (X : Cx) (f : Value) (ds : List TL.D) (A : AH) (z : TL.D) : Prop := ∀ A1, Sub A A1 → ∀ Q : TQ, Q z A1 → CaW X f ds A1 Q
def rCaW (X : Cx) (f : Value) : List V → Hp → VK → Prop := fun vs H R => ∃ ds A Q, HR X.K A H ∧ Rps X.K H vs ds ∧ CaW X f ds A Q ∧ ∀ v H' d A', Kp X.K H H' → Rp X.K H' v d → HR X.K A' H' → Q d A' → R v H'
theorem cr_w {f : Value} : CallR X f (rCaW X f) := fun pins s σ H xs us R I r h => by
  obtain ⟨ds, A, Q, hr, hv, ⟨rr, ho, hq⟩, hR⟩ := h
  exact ho pins s σ H xs us R I r (hq H xs hr hv R hR)
theorem BC.callB {x : Str} {id : String} (B : BC X N sc) (hg : sc.names.lookup x = some .globalImplicit) (hm : X.mg x = none) (hv : bootBuiltins x = some (.builtin id)) (h : WPA X (e :: es) δ A fun ds A1 => CaW X (.builtin id) ds A1 Q) (hn : x ≠ "__name__" := by decide) (hdb : (x == ("__debug__" : Str)) = false := by decide)
    (he : starEach (e :: es) X.env = (false, eval e X.env) :: starEach es X.env := by rfl) (hpl : (backTo pos (starEach es X.env)).any (·.1) = false := by rfl) : WPE X (.Call (.Name x p_) (e :: es) [] pos) δ A Q := fun σ H s r =>
  runE.of (pe_callB cr_w (B.gl hg) hm hv pa_run hn hdb he hpl) (runA.mono (h σ H s r) fun vs H1 ⟨ds, A1, k1, rps, hr, q⟩ => ⟨ds, A1, Q, hr, rps, q, fun v H' d A' k' rp hr' q' => ⟨d, A', k1.trans k', rp, hr', q'⟩⟩)
theorem BC.callT {x : Str} {T : String} (B : BC X N sc) (hg : sc.names.lookup x = some .globalImplicit) (hm : X.mg x = none) (hv : bootBuiltins x = some (.type T)) (h : WPA X (e :: es) δ A fun ds A1 => CaW X (.type T) ds A1 Q) (hn : x ≠ "__name__" := by decide) (hdb : (x == ("__debug__" : Str)) = false := by decide)
    (he : starEach (e :: es) X.env = (false, eval e X.env) :: starEach es X.env := by rfl) (hpl : (backTo pos (starEach es X.env)).any (·.1) = false := by rfl) : WPE X (.Call (.Name x p_) (e :: es) [] pos) δ A Q := fun σ H s r =>
  runE.of (pe_callTy cr_w (B.gl hg) hm hv pa_run hn hdb he hpl) (runA.mono (h σ H s r) fun vs H1 ⟨ds, A1, k1, rps, hr, q⟩ => ⟨ds, A1, Q, hr, rps, q, fun v H' d A' k' rp hr' q' => ⟨d, A', k1.trans k', rp, hr', q'⟩⟩)
theorem cav_of {f : Value} {ds : List TL.D} {r : List V → Hp → VK → Prop} (ho : CallR X f r) (h : ∀ A1, Sub A A1 → ∀ H vs, HR X.K A1 H → Rps X.K H vs ds → ∀ R : VK, (∀ v, Rp X.K H v z → R v H) → r vs H R) : CaV X f ds A z :=
  fun A1 k Q q => ⟨r, ho, fun H vs hr rps R hR => h A1 k H vs hr rps R fun v rp => hR v H z A1 (Kp.refl H) rp hr q⟩
theorem rps1 {K : PySem.W.Frag} {H : Hp} {vs : List V} (h : Rps K H vs [d]) : ∃ v, vs = [v] ∧ Rp K H v d := by
  obtain ⟨v, r, rfl, h1, h2⟩ := rps_cons h
  exact ⟨v, by rw [rps_nil h2], h1⟩
theorem cav_int {i : Int} : CaV X (.type "int") [.int i] A (.int i) := cav_of call_int1 fun A1 _ H vs hr rps R q => by
  obtain ⟨v, rfl, h⟩ := rps1 rps
  cases h
  exact .inl ⟨i, rfl, q _ .int⟩
theorem cav_len {p : Addr} {xs : List TL.D} (h : RdL X.K A p xs) : CaV X (.builtin "len") [.ref p] A (.int xs.length) := cav_of call_len_seq fun A1 k H vs hr rps R q => by
  obtain ⟨v, rfl, hv⟩ := rps1 rps
  cases hv
  obtain ⟨ws, h1, h2⟩ := (h.sub k).sq hr
  exact ⟨p, ws, rfl, .inl h1, by rw [Paired.length h2]; exact q _ .int⟩
theorem cav_lenS {s : Str} (h : s.length ≤ sizeLine) : CaV X (.builtin "len") [.str s] A (.int s.length) := cav_of call_len_str fun A1 k H vs hr rps R q => by
  obtain ⟨v, rfl, hv⟩ := rps1 rps
  cases hv
  exact ⟨s, rfl, h, q _ .int⟩
theorem rps_bls {K : PySem.W.Frag} {H : Hp} : ∀ {vs : List V} {bs : List Bool}, Rps K H vs (bs.map TL.D.bl) → vs = bs.map V.bl
  | _, [], h => rps_nil h
  | _, b :: bs, h => by
    obtain ⟨v, r, rfl, h1, h2⟩ := rps_cons h
    cases h1
    rw [rps_bls h2]; rfl
theorem cav_all {p : Addr} {bs : List Bool} (hc : X.calm = true) (h : RdL X.K A p (bs.map TL.D.bl)) : CaV X (.builtin "all") [.ref p] A (.bl (bs.all id)) := cav_of (cr_all hc) fun A1 k H vs hr rps R q => by
  obtain ⟨v, rfl, hv⟩ := rps1 rps
  cases hv
  obtain ⟨ws, h1, h2⟩ := (h.sub k).sq hr
  exact ⟨p, bs, rfl, by rw [← rps_bls h2]; exact h1, q _ .bl⟩
theorem cav_any {p : Addr} {bs : List Bool} (hc : X.calm = true) (h : RdL X.K A p (bs.map TL.D.bl)) : CaV X (.builtin "any") [.ref p] A (.bl (bs.any id)) := cav_of (cr_any hc) fun A1 k H vs hr rps R q => by
  obtain ⟨v, rfl, hv⟩ := rps1 rps
  cases hv
  obtain ⟨ws, h1, h2⟩ := (h.sub k).sq hr
  exact ⟨p, bs, rfl, by rw [← rps_bls h2]; exact h1, q _ .bl⟩
/-- list(xs): a new list -/
theorem caw_list {p : Addr} {xs : List TL.D} (h : RdL X.K A p xs) (q : ∀ l, A l = none → Q (.ref l) (updA A l (.prim (.lst xs)))) : CaW X (.type "list") [.ref p] A Q := ⟨_, call_list_of, fun H vs hr rps R hR => by
  obtain ⟨v, rfl, hv⟩ := rps1 rps
  cases hv
  obtain ⟨ws, h1, h2⟩ := h.sq hr
  refine ⟨p, ws, rfl, .inl h1, fun l hl => ?_⟩
  have ex := ex_upd (o := .lst ws) hl
  have kk : Kp X.K H (upd H l (.lst ws)) := kp_ex ex
  exact hR _ _ (.ref l) _ kk .ref (hr.new (o := .lst xs) hl kk ex ⟨_, upd_same, Rps.keep h2 kk⟩) (q l (hr.free hl))⟩
theorem BC.eB {x : Str} {id : String} {ds : List TL.D} (B : BC X N sc) (hg : sc.names.lookup x = some .globalImplicit) (hm : X.mg x = none) (hv : bootBuiltins x = some (.builtin id)) (h : EvA X (e :: es) δ A ds) (q : CaV X (.builtin id) ds A z) (hn : x ≠ "__name__" := by decide) (hdb : (x == ("__debug__" : Str)) = false := by decide)
    (he : starEach (e :: es) X.env = (false, eval e X.env) :: starEach es X.env := by rfl) (hpl : (backTo pos (starEach es X.env)).any (·.1) = false := by rfl) : Ev X (.Call (.Name x p_) (e :: es) [] pos) δ A z := fun A1 k Q qq => B.callB hg hm hv (h A1 k _ (q A1 k Q qq)) hn hdb he hpl
theorem BC.eT {x : Str} {T : String} {ds : List TL.D} (B : BC X N sc) (hg : sc.names.lookup x = some .globalImplicit) (hm : X.mg x = none) (hv : bootBuiltins x = some (.type T)) (h : EvA X (e :: es) δ A ds) (q : CaV X (.type T) ds A z) (hn : x ≠ "__name__" := by decide) (hdb : (x == ("__debug__" : Str)) = false := by decide)
    (he : starEach (e :: es) X.env = (false, eval e X.env) :: starEach es X.env := by rfl) (hpl : (backTo pos (starEach es X.env)).any (·.1) = false := by rfl) : Ev X (.Call (.Name x p_) (e :: es) [] pos) δ A z := fun A1 k Q qq => B.callT hg hm hv (h A1 k _ (q A1 k Q qq)) hn hdb he hpl
/-- the argument a new object that is forgotten -/
theorem BC.eBN {x : Str} {id : String} {o : MO} (B : BC X N sc) (hg : sc.names.lookup x = some .globalImplicit) (hm : X.mg x = none) (hv : bootBuiltins x = some (.builtin id)) (h : EvN X e δ A o) (q : ∀ A1 p, Sub A A1 → A1 p = some (.prim o) → CaV X (.builtin id) [.ref p] A1 z) (hn : x ≠ "__name__" := by decide) (hdb : (x == ("__debug__" : Str)) = false := by decide)
    (he : starEach [e] X.env = (false, eval e X.env) :: starEach [] X.env := by rfl) (hpl : (backTo pos (starEach [] X.env)).any (·.1) = false := by rfl) : Ev X (.Call (.Name x p_) [e] [] pos) δ A z := fun A1 k Q qq => by
  refine WPE.monoV (Q := fun d A' => d = z ∧ Sub A1 A') (B.callB hg hm hv (wpa_cons (h A1 k _ fun p hp => wpa_nil ?_) he) hn hdb he hpl) fun d A' ⟨e, s⟩ => ⟨A1, Vw.sub s, by subst e; exact qq⟩
  exact q _ p (k.trans (Sub.upd (Sub.refl A1) hp)) updA_same _ (Sub.refl _) _ ⟨rfl, Sub.upd (Sub.refl A1) hp⟩
end TL
/-! The tree layer: attributes, dicts, calls, defs. -/
namespace TL
open PySem PySem.Spec PyProof.Rows L2
variable {X : Cx} {N : List Str} {sc : Scope} {e a b c o i_ v_ : Expr} {es : List Expr} {st : Stmt} {rest : List Stmt} {δ : Ds} {A : AH} {Q : TQ} {D : TEnds} {d x y z : TL.D} {pos apos p_ : Pos}

/-! ### attributes -/
def putA (f : Str) (v : TL.D) : List (Str × TL.D) → List (Str × TL.D)
  | [] => [(f, v)]
  | (g, x) :: r => if g = f then (g, v) :: r else (g, x) :: putA f v r
theorem kvr_look {K : PySem.W.Frag} {H : Hp} {f : Str} : ∀ {gs : List (Str × V)} {fs : List (Str × TL.D)}, KVr K H gs fs → (match fs.lookup f with | some d => ∃ v, gs.lookup f = some v ∧ Rp K H v d | none => gs.lookup f = none)
  | _, _, .nil => rfl
  | (g, v) :: gs, (g', d) :: fs, .cons ⟨e, r⟩ t => by
    have e' : g = g' := e
    subst e'
    rw [List.lookup_cons, List.lookup_cons]
    by_cases q : f = g
    · subst q
      rw [beq_self_eq_true]
      exact ⟨v, rfl, r⟩
    · have hx : (f == g) = false := by simpa using q
      rw [hx]
      exact kvr_look t
theorem kvr_some {K : PySem.W.Frag} {H : Hp} {f : Str} {gs : List (Str × V)} {fs : List (Str × TL.D)} (h : KVr K H gs fs) (l : fs.lookup f = some d) : ∃ v, gs.lookup f = some v ∧ Rp K H v d := by
  have q := kvr_look (f := f) h
  rw [l] at q; exact q
theorem kvr_none {K : PySem.W.Frag} {H : Hp} {f : Str} {gs : List (Str × V)} {fs : List (Str × TL.D)} (h : KVr K H gs fs) (l : fs.lookup f = none) : gs.lookup f = none := by
  have q := kvr_look (f := f) h
  rw [l] at q; exact q
theorem kvr_put {K : PySem.W.Frag} {H : Hp} {f : Str} {v : V} (r : Rp K H v d) : ∀ {gs : List (Str × V)} {fs : List (Str × TL.D)}, KVr K H gs fs → KVr K H (putF f v gs) (putA f d fs)
  | _, _, .nil => .cons ⟨rfl, r⟩ .nil
  | (g, u) :: gs, (g', d') :: fs, .cons ⟨e, r'⟩ t => by
    have e' : g = g' := e
    subst e'
    unfold putF putA
    split
    · exact .cons ⟨rfl, r⟩ t
    · exact .cons ⟨rfl, r'⟩ (kvr_put r t)
theorem ev_fld {f : Str} {p C : Addr} {fs : List (Str × TL.D)} (h : Ev X o δ A (.ref p)) (hp : A p = some (.prim (.ins C fs))) (hl : fs.lookup f = some d) (hc : Cls X.K C) (n : NoAttr X.K C f) (hb : attributeBase o f X.env (eval o X.env) = eval o X.env := by rfl) : Ev X (.Attribute o f pos) δ A d := fun A1 k Q q σ H s r => by
  refine runE.of (pe_fld pe_run hb) (runE.mono (h A1 k (fun v A2 => v = .ref p ∧ A2 = A1) ⟨rfl, rfl⟩ σ H s r) fun v H1 ⟨d', A2, k1, rp, hr, e1, e2⟩ => ?_)
  subst e1 e2
  cases rp
  obtain ⟨dx, gs, h1, h2⟩ := hr.at_ (k _ _ hp)
  obtain ⟨v, l, rv⟩ := kvr_some h2 hl
  exact ⟨p, C, dx, gs, v, rfl, h1, hc, n, l, d, A2, k1, rv, hr, q⟩
theorem kp_write {K : PySem.W.Frag} {H : Hp} {p : Addr} {u u' : HO} (h : H p = some u) (nt : ∀ xs, u ≠ .tup xs) (nf : ∀ ob w, u ≠ .frz ob w) : Kp K H (upd H p u') := fun a xs q => by
  rcases q with (q | ⟨ob, q⟩) | q
  · refine .inl (.inl ?_)
    rw [upd_ne fun z => by subst z; exact nt xs (Option.some.inj (h.symm.trans q))]; exact q
  · refine .inl (.inr ⟨ob, ?_⟩)
    rw [upd_ne fun z => by subst z; exact nf ob _ (Option.some.inj (h.symm.trans q))]; exact q
  · exact .inr q
theorem hr_write {K : PySem.W.Frag} {H : Hp} {p : Addr} {u u' : HO} {m m' : MO} (hr : HR K A H) (hp : A p = some (.prim m)) (h : H p = some u) (nt : ∀ xs, u ≠ .tup xs) (nf : ∀ ob w, u ≠ .frz ob w) (ok : Kp K H (upd H p u') → MOk K (upd H p u') p m') : Kp K H (upd H p u') ∧ HR K (updA A p (.prim m')) (upd H p u') := by
  have k := kp_write (K := K) (u' := u') h nt nf
  exact ⟨k, hr.write hp k (fun a ha => upd_ne ha) (ok k)⟩
theorem wps_fld {f : Str} {pos' : Pos} (h : WPE X v_ δ A fun d A1 => WPE X o δ A1 fun x A2 => ∃ p C fs, x = .ref p ∧ A2 p = some (.prim (.ins C fs)) ∧ Cls X.K C ∧ NoAttr X.K C f ∧ fs.length < 1000 ∧ D.nx δ (updA A2 p (.prim (.ins C (putA f d fs)))))
    (hs : swapsWith v_ (some (.Attribute o f pos')) pos.line X.env = pure false := by rfl) : WPS X (.Assign [.Attribute o f pos'] v_ pos) δ A D := fun σ H s r => by
  refine runS.of (ps_fld pe_run pe_run hs) (runE.mono (wpe_two h s r) fun vd H1 h => runE.mono h fun vx H2 ⟨d, x, A2, k2, rd, rx, hr, p, C, fs, e, hp, hc, n, hl, q⟩ => ?_)
  subst e
  cases rx
  obtain ⟨dx, gs, h1, h2⟩ := hr.at_ hp
  obtain ⟨k, hr'⟩ := hr_write (m' := .ins C (putA f d fs)) (u' := .ins C dx (putF f vd gs)) hr hp h1 (by intro _ z; cases z) (by intro _ _ z; cases z) fun k => ⟨dx, _, upd_same, kvr_put (rd.keep k) (KVr.keep h2 k)⟩
  exact ⟨p, C, dx, gs, rfl, h1, hc, n, by have := Paired.length h2; omega, δ, _, k2.trans k, s.keep (k2.trans k), hr', q⟩

/-! ### list methods -/
theorem wpe_append {cpos : Pos} (h : WPE X o δ A fun x A1 => ∃ l, x = .ref l ∧ (∃ ys, A1 l = some (.prim (.lst ys))) ∧ WPE X e δ A1 fun d A2 => ∃ xs, A2 l = some (.prim (.lst xs)) ∧ xs.length < sizeLine ∧ Q .non (updA A2 l (.prim (.lst (xs ++ [d])))))
    (hbase : attributeBase o "append" X.env (eval o X.env) = eval o X.env := by rfl) (hline : (apos.endLine == cpos.line) = true := by rfl) (hs : starEach [e] X.env = (false, eval e X.env) :: starEach [] X.env := by rfl) :
    WPE X (.Call (.Attribute o "append" apos) [e] [] cpos) δ A Q := fun σ H s r => by
  refine runE.of (pe_bm PySem.F.plainAttrs_list PySem.F.slot_list_append PySem.F.type_list_append mt_append pe_run (pa_cons pe_run pa_nil hs) hbase (by rw [hs]; rfl) hline hs rfl) (runE.mono (h σ H s r) fun v H1 ⟨x, A1, k1, rp, hr, l, e1, ⟨ys, hy⟩, q⟩ => ?_)
  subst e1
  cases rp
  obtain ⟨ws, hw, _⟩ := hr.at_ hy
  refine ⟨.inl ⟨rfl, _, .of hw⟩, runE.mono (q σ H1 (s.keep k1) hr) fun vd H2 ⟨d, A2, k2, rd, hr2, xs, hx, hl, q2⟩ => ?_⟩
  obtain ⟨vs, hv, rv⟩ := hr2.at_ hx
  obtain ⟨k, hr'⟩ := hr_write (m' := .lst (xs ++ [d])) (u' := .lst (vs ++ [vd])) hr2 hx hv (by intro _ z; cases z) (by intro _ _ z; cases z) fun k => ⟨_, upd_same, Rps.keep (Paired.app rv (.cons rd .nil)) k⟩
  exact ⟨l, vs, vd, rfl, rfl, hv, by rw [Paired.length rv]; exact hl, .non, _, (k1.trans k2).trans k, .non, hr', q2⟩

/-! ### dicts whose keys are ints and texts -/
def kD : Key → TL.D
  | .inl i => .int i
  | .inr s => .str s
def valD {κ : Type} [DecidableEq κ] (kvs : List (κ × TL.D)) (k : κ) : Option TL.D := (kvs.find? fun kv => decide (kv.1 = k)).map (·.2)
def putKD {κ : Type} [DecidableEq κ] (kvs : List (κ × TL.D)) (k : κ) (v : TL.D) : List (κ × TL.D) :=
  if (kvs.any fun kv => decide (kv.1 = k)) = true then kvs.map (fun kv => if kv.1 = k then (kv.1, v) else kv) else kvs ++ [(k, v)]
theorem kv_kD {K : PySem.W.Frag} {H : Hp} {v : V} {k : Key} (r : Rp K H v (kD k)) : v = kV k := by
  cases k <;> (cases r; rfl)
theorem kvr_val {κ : Type} [DecidableEq κ] {K : PySem.W.Frag} {H : Hp} {k : κ} : ∀ {us : List (κ × V)} {kvs : List (κ × TL.D)}, KVr K H us kvs → (match valD kvs k with | some d => ∃ v, valV us k = some v ∧ Rp K H v d | none => valV us k = none)
  | _, _, .nil => rfl
  | (g, v) :: us, (g', d) :: kvs, .cons ⟨e, r⟩ t => by
    have e' : g = g' := e
    subst e'
    have ih := kvr_val (k := k) t
    unfold valD valV at ih ⊢
    rw [List.find?_cons, List.find?_cons]
    by_cases q : g = k
    · simp only [q, decide_true]
      exact ⟨v, rfl, r⟩
    · simp only [q, decide_false]
      exact ih
theorem kvr_any {κ : Type} [DecidableEq κ] {K : PySem.W.Frag} {H : Hp} {k : κ} : ∀ {us : List (κ × V)} {kvs : List (κ × TL.D)}, KVr K H us kvs → (us.any fun kv => decide (kv.1 = k)) = (kvs.any fun kv => decide (kv.1 = k))
  | _, _, .nil => rfl
  | (g, v) :: us, (g', d) :: kvs, .cons ⟨e, r⟩ t => by
    have e' : g = g' := e
    subst e'
    rw [List.any_cons, List.any_cons, kvr_any t]
theorem kvr_map {κ : Type} [DecidableEq κ] {K : PySem.W.Frag} {H : Hp} {k : κ} {v : V} (rd : Rp K H v d) : ∀ {us : List (κ × V)} {kvs : List (κ × TL.D)}, KVr K H us kvs → KVr K H (us.map fun kv => if kv.1 = k then (kv.1, v) else kv) (kvs.map fun kv => if kv.1 = k then (kv.1, d) else kv)
  | _, _, .nil => .nil
  | (g, u) :: us, (g', d') :: kvs, .cons ⟨e, r⟩ t => by
    have e' : g = g' := e
    subst e'
    rw [List.map_cons, List.map_cons]
    refine .cons ?_ (kvr_map rd t)
    show (if g = k then (g, v) else (g, u)).1 = (if g = k then (g, d) else (g, d')).1 ∧ Rp K H (if g = k then (g, v) else (g, u)).2 (if g = k then (g, d) else (g, d')).2
    split
    · exact ⟨rfl, rd⟩
    · exact ⟨rfl, r⟩
theorem kvr_putK {κ : Type} [DecidableEq κ] {K : PySem.W.Frag} {H : Hp} {k : κ} {v : V} (rd : Rp K H v d) {us : List (κ × V)} {kvs : List (κ × TL.D)} (h : KVr K H us kvs) : KVr K H (putK us k v) (putKD kvs k d) := by
  unfold putK putKD
  rw [kvr_any h]
  split
  · exact kvr_map rd h
  · exact Paired.app h (.cons ⟨rfl, rd⟩ .nil)
theorem evn_dict : EvN X (.Dict [] [] pos) δ A (.dK []) := fun A1 k Q q σ H s r => runE.of pe_dnewK fun p hp => by
  have ex := ex_upd (o := .dK []) hp
  have kk : Kp X.K H (upd H p (.dK [])) := kp_ex ex
  exact ⟨.ref p, _, kk, .ref, r.new (o := .dK []) hp kk ex ⟨[], upd_same, .nil⟩, q p (r.free hp)⟩
theorem ev_dget {p : Addr} {kvs : List (Key × TL.D)} {k : Key} (hu : X.A.units + 1 < cLine) (ho : Ev X o δ A (.ref p)) (hi : Ev X i_ δ A (kD k)) (hp : A p = some (.prim (.dK kvs))) (hv : valD kvs k = some d) (hs : NoSl i_ := by exact fun _ _ => rfl) : Ev X (.Subscript o i_ pos) δ A d := fun A1 kk Q q σ H s r => by
  refine runE.of (pe_dget hu pe_run pe_run hs) (runE.mono (wpe_two (R := fun x' y' A2 => x' = .ref p ∧ y' = kD k ∧ A2 = A1) (ho A1 kk _ (hi A1 kk _ ⟨rfl, rfl, rfl⟩)) s r) fun vx H1 h => runE.mono h fun vy H2 ⟨x', y', A2, k2, rx, ry, hr, e1, e2, e3⟩ => ?_)
  subst e1 e2 e3
  cases rx
  have ey := kv_kD ry
  subst ey
  obtain ⟨us, h1, h2⟩ := hr.at_ (kk _ _ hp)
  have z := kvr_val (k := k) h2
  rw [hv] at z
  obtain ⟨v, e, rv⟩ := z
  exact ⟨p, v, rfl, by rw [← e]; exact DGet.k h1, d, A2, k2, rv, hr, q⟩
theorem ev_din {p : Addr} {kvs : List (Key × TL.D)} {k : Key} (hu : X.A.units + 1 < cLine) (hi : Ev X i_ δ A (kD k)) (ho : Ev X o δ A (.ref p)) (hp : A p = some (.prim (.dK kvs))) (hm : behindInMarks .In o = false := by rfl) : Ev X (.Compare i_ [.In] [o] pos) δ A (.bl (valD kvs k).isSome) := fun A1 kk Q q σ H s r => by
  refine runE.of (pe_cmp (pc_din hu pe_run pe_run) hm) (runE.mono (wpe_two (R := fun y' x' A2 => x' = .ref p ∧ y' = kD k ∧ A2 = A1) (hi A1 kk _ (ho A1 kk _ ⟨rfl, rfl, rfl⟩)) s r) fun vy H1 h => runE.mono h fun vx H2 ⟨y', x', A2, k2, ry, rx, hr, e1, e2, e3⟩ => ?_)
  subst e1 e2 e3
  cases rx
  have ey := kv_kD ry
  subst ey
  obtain ⟨us, h1, h2⟩ := hr.at_ (kk _ _ hp)
  have z := kvr_val (k := k) h2
  refine ⟨p, valV us k, rfl, DGet.k h1, _, A2, k2, ?_, hr, q⟩
  cases e : valD kvs k with
  | none => rw [e] at z; rw [z]; exact .bl
  | some d => rw [e] at z; obtain ⟨v, e2, _⟩ := z; rw [e2]; exact .bl
theorem et_din {p : Addr} {kvs : List (Key × TL.D)} {k : Key} (hu : X.A.units + 1 < cLine) (hi : Ev X i_ δ A (kD k)) (ho : Ev X o δ A (.ref p)) (hp : A p = some (.prim (.dK kvs))) (hm : behindInMarks .In o = false := by rfl) : EvT X (.Compare i_ [.In] [o] pos) δ A (valD kvs k).isSome := fun A1 kk Q q σ H s r => by
  refine runT.of (pt_cmp (pc_din hu pe_run pe_run) hm) (runE.mono (wpe_two (R := fun y' x' A2 => x' = .ref p ∧ y' = kD k ∧ A2 = A1) (hi A1 kk _ (ho A1 kk _ ⟨rfl, rfl, rfl⟩)) s r) fun vy H1 h => runE.mono h fun vx H2 ⟨y', x', A2, k2, ry, rx, hr, e1, e2, e3⟩ => ?_)
  subst e1 e2 e3
  cases rx
  have ey := kv_kD ry
  subst ey
  obtain ⟨us, h1, h2⟩ := hr.at_ (kk _ _ hp)
  have z := kvr_val (k := k) h2
  refine ⟨p, valV us k, rfl, DGet.k h1, (valD kvs k).isSome, ?_, A2, k2, hr, q⟩
  cases e : valD kvs k with
  | none => rw [e] at z; rw [z]; rfl
  | some d => rw [e] at z; obtain ⟨v, e2, _⟩ := z; rw [e2]; rfl
theorem et_dnin {p : Addr} {kvs : List (Key × TL.D)} {k : Key} (hu : X.A.units + 1 < cLine) (hi : Ev X i_ δ A (kD k)) (ho : Ev X o δ A (.ref p)) (hp : A p = some (.prim (.dK kvs))) (hm : behindInMarks .NotIn o = false := by rfl) : EvT X (.Compare i_ [.NotIn] [o] pos) δ A (!(valD kvs k).isSome) := fun A1 kk Q q σ H s r => by
  refine runT.of (pt_cmp (pc_dnotin hu pe_run pe_run) hm) (runE.mono (wpe_two (R := fun y' x' A2 => x' = .ref p ∧ y' = kD k ∧ A2 = A1) (hi A1 kk _ (ho A1 kk _ ⟨rfl, rfl, rfl⟩)) s r) fun vy H1 h => runE.mono h fun vx H2 ⟨y', x', A2, k2, ry, rx, hr, e1, e2, e3⟩ => ?_)
  subst e1 e2 e3
  cases rx
  have ey := kv_kD ry
  subst ey
  obtain ⟨us, h1, h2⟩ := hr.at_ (kk _ _ hp)
  have z := kvr_val (k := k) h2
  refine ⟨p, valV us k, rfl, DGet.k h1, !(valD kvs k).isSome, ?_, A2, k2, hr, q⟩
  cases e : valD kvs k with
  | none => rw [e] at z; rw [z]; rfl
  | some d => rw [e] at z; obtain ⟨v, e2, _⟩ := z; rw [e2]; rfl
theorem wpe_three {R : TL.D → TL.D → TL.D → AH → Prop} (h : WPE X a δ A fun x A1 => WPE X b δ A1 fun y A2 => WPE X c δ A2 fun z A3 => R x y z A3) {σ : St} {H : Hp} (s : Sl X.K H σ δ) (r : HR X.K A H) :
    runE X a σ H fun vx H1 => runE X b σ H1 fun vy H2 => runE X c σ H2 fun vz H3 => ∃ x y z A3, Kp X.K H H3 ∧ Rp X.K H3 vx x ∧ Rp X.K H3 vy y ∧ Rp X.K H3 vz z ∧ HR X.K A3 H3 ∧ R x y z A3 :=
  runE.mono (wpe_two h s r) fun vx H1 h => runE.mono h fun vy H2 ⟨x, y, A2, k2, rx, ry, hr, q⟩ => runE.mono (q σ H2 (s.keep k2) hr) fun vz H3 ⟨z, A3, k3, rz, hr3, q3⟩ => ⟨x, y, z, A3, k2.trans k3, rx.keep k3, ry.keep k3, rz, hr3, q3⟩
theorem wps_dput {pos' : Pos} (hu : X.A.units + 1 < cLine) (h : WPE X v_ δ A fun d A1 => WPE X o δ A1 fun x A2 => WPE X i_ δ A2 fun y A3 => ∃ p kvs k, x = .ref p ∧ y = kD k ∧ A3 p = some (.prim (.dK kvs)) ∧ kvs.length < sizeLine ∧ D.nx δ (updA A3 p (.prim (.dK (putKD kvs k d)))))
    (hs : swapsWith v_ (some (.Subscript o i_ pos')) pos.line X.env = pure false := by rfl) : WPS X (.Assign [.Subscript o i_ pos'] v_ pos) δ A D := fun σ H s r => by
  refine runS.of (ps_dput hu pe_run pe_run pe_run hs) (runE.mono (wpe_three h s r) fun vd H1 h => runE.mono h fun vx H2 h => runE.mono h fun vy H3 ⟨d, x, y, A3, k3, rd, rx, ry, hr, p, kvs, k, e1, e2, hp, hl, q⟩ => ?_)
  subst e1 e2
  cases rx
  have ey := kv_kD ry
  subst ey
  obtain ⟨us, h1, h2⟩ := hr.at_ hp
  obtain ⟨kk, hr'⟩ := hr_write (m' := .dK (putKD kvs k d)) (u' := .dK (putK us k vd)) hr hp h1 (by intro _ z; cases z) (by intro _ _ z; cases z) fun kk => ⟨_, upd_same, kvr_putK (rd.keep kk) (KVr.keep h2 kk)⟩
  exact ⟨p, _, rfl, DPut.k h1 (by rw [Paired.length h2]; exact hl), δ, _, k3.trans kk, s.keep (k3.trans kk), hr', q⟩
end TL
/-! The tree layer: calls, defs, instances. -/
namespace TL
open PySem PySem.Spec PyProof.Rows
open L2 hiding XE Takes CX MkP PMk ps_raise mk_of ps_try_as ps_try_many pmk_own passAt takes_of passes_call XE.new XE.of_call XE.leave Takes.imp Sky.land
open L2N hiding St
variable {X : Cx} {N : List Str} {sc : Scope} {e a b c o i_ v_ : Expr} {es : List Expr} {st : Stmt} {rest : List Stmt} {δ : Ds} {A : AH} {Q : TQ} {D : TEnds} {d x y z : TL.D} {pos apos p_ : Pos}

abbrev TXQ := Value → List (Str × TL.D) → AH → Prop
abbrev TSp := List TL.D → AH → TQ → TXQ → Prop
abbrev NoX : TXQ := fun _ _ _ => False
/-- an exception's attributes: none, or a dict of its own at a -/
def XF (K : PySem.W.Frag) (H : Hp) (A : AH) : Option Addr → List (Str × TL.D) → Prop
  | none, fs => fs = [] ∧ HR K A H
  | some a, fs => A a = none ∧ HR K (updA A a (.prim (.xd fs))) H
def EXT (K : PySem.W.Frag) (H : Hp) (ET : TXQ) : XK := fun cls o H' => ∃ fs A', Kp K H H' ∧ XF K H' A' o fs ∧ ET cls fs A'
/-- a promise over trees, below -/
def liftSp (K : PySem.W.Frag) (tp : TSp) : Sp := fun vs H Q E => ∃ ds A QT ET, Rps K H vs ds ∧ HR K A H ∧ tp ds A QT ET ∧ (∀ v H', LQ K H QT v H' → Q v H') ∧ ∀ cls o H', EXT K H ET cls o H' → E cls o H'
def FnT (P : Program) (w : World) (K : PySem.W.Frag) (mg : Str → Option Value) (base : Heap) (k : Nat) (f : Addr) (tp : TSp) : Prop := FnR P w K mg base (L2N.CX P w) k f (liftSp K tp)
/-- what a callee may let out is taken here -/
def PassT (X : Cx) (ET : TXQ) : Prop := ∀ pins σ H s e s', Inv X pins σ H s → L2N.CX X.prog X.w X.stack H s (EXT X.K H ET) e s' → X.xe e s'
/-- the same where the slots hold δ -/
def PassD (X : Cx) (δ : Ds) (ET : TXQ) : Prop := ∀ pins σ H s e s', Inv X pins σ H s → Sl X.K H σ δ → L2N.CX X.prog X.w X.stack H s (EXT X.K H ET) e s' → X.xe e s'
theorem PassT.at_ {ET : TXQ} (h : PassT X ET) : PassD X δ ET := fun pins σ H s e s' I _ q => h pins σ H s e s' I q
/-- what is wished of an exception -/
def XT (K : PySem.W.Frag) (ET : TXQ) : XK := fun cls o H => ∃ fs A', XF K H A' o fs ∧ ET cls fs A'
def TakesT (X : Cx) (ET : TXQ) : Prop := Takes X (fun cls d _ H => XT X.K ET cls d H)
def TakesD (X : Cx) (δ : Ds) (ET : TXQ) : Prop := Takes X (fun cls d σ H => Sl X.K H σ δ ∧ XT X.K ET cls d H)
theorem xe_imp {W W' : WX} {u : Value} {s : Shared} (h : ∀ cls d σ H pins sI, Inv X pins σ H sI → W' cls d σ H → W cls d σ H) (x : XE X W' u s) : XE X W u s := by
  obtain ⟨a, B, sI, pins, σ, H, cls, d, rfl, J, nb, up, sky, na, os, ag, w⟩ := x
  exact ⟨a, B, sI, pins, σ, H, cls, d, rfl, J, nb, up, sky, na, os, ag, h cls d σ H pins sI J w⟩
theorem TakesT.at_ {ET : TXQ} (h : TakesT X ET) : TakesD X δ ET := fun u s x => h u s (xe_imp (fun cls d σ H _ _ _ w => w.2) x)
theorem TakesD.p {ET : TXQ} (h : TakesD X δ ET) : PassD X δ ET := fun pins σ H s e s' I sl q =>
  h e s' (XE.of_call I (fun cls d H' ⟨fs, A', k, xf, w⟩ => ⟨sl.keep k, fs, A', xf, w⟩) q)
theorem TakesT.p {ET : TXQ} (h : TakesT X ET) : PassT X ET := fun pins σ H s e s' I q => h e s' (XE.of_call I (fun cls d H' ⟨fs, A', k, xf, w⟩ => ⟨fs, A', xf, w⟩) q)
theorem TakesT.imp {ET ET' : TXQ} (h : TakesT X ET) (k : ∀ cls fs A', ET' cls fs A' → ET cls fs A') : TakesT X ET' := fun u s x => h u s (xe_imp (fun cls d σ H _ _ _ ⟨fs, A', xf, w⟩ => ⟨fs, A', xf, k _ _ _ w⟩) x)
theorem TakesD.imp {ET ET' : TXQ} (h : TakesD X δ ET) (k : ∀ cls fs A', ET' cls fs A' → ET cls fs A') : TakesD X δ ET' := fun u s x => h u s (xe_imp (fun cls d σ H _ _ _ ⟨sl, fs, A', xf, w⟩ => ⟨sl, fs, A', xf, k _ _ _ w⟩) x)
/-- seen otherwise, also with an exception's attributes beside -/
structure VwX (A A' : AH) : Prop where
  no : ∀ d, A d = none → A' d = none
  v : Vw A A'
  vd : ∀ d o, A d = none → Vw (updA A d (.prim o)) (updA A' d (.prim o))
theorem VwX.refl (A : AH) : VwX A A := ⟨fun _ h => h, Vw.refl A, fun _ _ _ => Vw.refl _⟩
theorem VwX.sub {A A' : AH} (h : Sub A' A) : VwX A A' := ⟨fun d z => h.none z, Vw.sub h, fun d o z => Vw.sub fun b u e => by
  by_cases q : b = d
  · subst q; rw [updA_same] at e ⊢; exact e
  · rw [updA_ne q] at e ⊢; exact h b u e⟩
theorem XF.vw {K : PySem.W.Frag} {H : Hp} {A A' : AH} {o : Option Addr} {fs : List (Str × TL.D)} (v : VwX A A') (h : XF K H A o fs) : XF K H A' o fs := by
  cases o with
  | none => exact ⟨h.1, v.v _ _ h.2⟩
  | some a =>
    obtain ⟨h1, h3⟩ := h
    exact ⟨v.no a h1, v.vd a _ h1 _ _ h3⟩
theorem TakesD.vw {ET ET' : TXQ} (h : TakesD X δ ET) (k : ∀ cls fs A', ET' cls fs A' → ∃ A2, VwX A' A2 ∧ ET cls fs A2) : TakesD X δ ET' := fun u s x => h u s (xe_imp (fun cls d σ H _ _ _ ⟨sl, fs, A', xf, w⟩ => let ⟨A2, v, w2⟩ := k _ _ _ w; ⟨sl, fs, A2, xf.vw v, w2⟩) x)
theorem noX {H : Hp} {s s' : Shared} {e : Value} (h : L2N.CX X.prog X.w X.stack H s (EXT X.K H NoX) e s') : False := by
  obtain ⟨_, _, _, _, _, _, _, _, _, _, _, _, _, _, _, _, h⟩ := h
  exact h
theorem passT0 : PassT X NoX := fun _ _ _ _ _ _ _ h => (noX h).elim
theorem pass0 : PassD X δ NoX := passT0.at_
theorem FnT.mono {P : Program} {w : World} {K : PySem.W.Frag} {mg : Str → Option Value} {base : Heap} {j k : Nat} {f : Addr} {tp : TSp} (F : FnT P w K mg base j f tp) (h : j ≤ k) : FnT P w K mg base k f tp := FnR.mono F h
theorem FnT.imp {P : Program} {w : World} {K : PySem.W.Frag} {mg : Str → Option Value} {base : Heap} {k : Nat} {f : Addr} {tp tp' : TSp} (F : FnT P w K mg base k f tp) (h : ∀ ds A Q E, tp' ds A Q E → tp ds A Q E) : FnT P w K mg base k f tp' :=
  FnR.imp F fun vs H Q E ⟨ds, A, QT, ET, r, hr, t, h1, h2⟩ => ⟨ds, A, QT, ET, r, hr, h _ _ _ _ t, h1, h2⟩

section
variable {k : Nat} {f C : Addr} {tp : TSp} {ET : TXQ} {pins : List (Addr × Obj)} {σ : St} {H : Hp} {s : Shared} {us : List Value} {vs : List V} {ds : List TL.D}
theorem run_T (F : FnT X.prog X.w X.K X.mg X.base k f tp) (hr : Room k X.A) (hx : PassD X δ ET) (sl : Sl X.K H σ δ) (I : Inv X pins σ H s) (rv : Vals vs us) (rp : Rps X.K H vs ds) (hR : HR X.K A H) (h : tp ds A Q ET) : wpAny (model X.prog X.w) X.A (call (.ref f) us) (EP X pins σ (LQ X.K H Q)) X.xe s := by
  refine wpAny_call (codeAny_mono (F X.A X.stack s H us vs (LQ X.K H Q) (EXT X.K H ET) hr I.env0 rv ⟨ds, A, Q, ET, rp, hR, h, fun _ _ q => q, fun _ _ _ q => q⟩) fun r s' hq => ?_)
  cases r with
  | error e => exact hx pins σ H s e s' I sl hq
  | ok fl =>
    cases fl with
    | ret u => exact I.after hq
    | next => exact False.elim hq
    | brk => exact False.elim hq
    | cont => exact False.elim hq
/-- one C call further in -/
theorem run_T1 (F : FnT X.prog X.w X.K X.mg X.base k f tp) (hr : Room (k + 1) X.A) (hx : PassD X δ ET) (sl : Sl X.K H σ δ) (I : Inv X pins σ H s) (rv : Vals vs us) (rp : Rps X.K H vs ds) (hR : HR X.K A H) (h : tp ds A Q ET) : wpAny (model X.prog X.w) X.A.in1 (call (.ref f) us) (EP X pins σ (LQ X.K H Q)) X.xe s := by
  refine wpAny_call (codeAny_mono (F X.A.in1 X.stack s H us vs (LQ X.K H Q) (EXT X.K H ET) hr.in1 I.env0.in1 rv ⟨ds, A, Q, ET, rp, hR, h, fun _ _ q => q, fun _ _ _ q => q⟩) fun r s' hq => ?_)
  cases r with
  | error e => exact hx pins σ H s e s' I sl hq
  | ok fl =>
    cases fl with
    | ret u => exact I.after hq
    | next => exact False.elim hq
    | brk => exact False.elim hq
    | cont => exact False.elim hq
theorem EP.from {H1 : Hp} {u : Value} {s' : Shared} (k1 : Kp X.K H H1) (h : EP X pins σ (LQ X.K H1 Q) u s') : EP X pins σ (LQ X.K H Q) u s' := let ⟨v, H', I', r, q⟩ := h; ⟨v, H', I', r, LQ.from k1 q⟩
/-! ### calls of defs -/
theorem BC.call {x : Str} (B : BC X N sc) (F : FnT X.prog X.w X.K X.mg X.base k f tp) (hr : Room k X.A) (hg : sc.names.lookup x = some .globalImplicit) (hm : X.mg x = some (.ref f)) (hk : PySem.W.keepIn X.K (.ref f) = true) (hx : PassD X δ ET)
    (h : WPA X (e :: es) δ A fun ds A1 => tp ds A1 Q ET) (hdb : (x == ("__debug__" : Str)) = false := by decide) (he : starEach (e :: es) X.env = (false, eval e X.env) :: starEach es X.env := by rfl) (hpl : (backTo pos (starEach es X.env)).any (·.1) = false := by rfl) :
    WPE X (.Call (.Name x p_) (e :: es) [] pos) δ A Q := fun σ H sl r pins s I => by
  refine wpAny_Call_Name_kw (ld_glob I (B.gl hg) hm ?_ hdb)
  refine PySem.W.callWith_K (h₀ := X.base) I.ok.mod.kin hk (thn (h σ H sl r pos pins s I) fun us s1 ⟨vs, H1, I1, rv, ds, A1, k1, rps, hr1, q⟩ => ⟨I1.kIn, ?_⟩) he hpl
  exact thn (run_T F hr hx (sl.keep k1) I1 rv rps hr1 q) fun u s' => EP.from k1
theorem BC.call0 {x : Str} (B : BC X N sc) (F : FnT X.prog X.w X.K X.mg X.base k f tp) (hr : Room k X.A) (hg : sc.names.lookup x = some .globalImplicit) (hm : X.mg x = some (.ref f)) (hk : PySem.W.keepIn X.K (.ref f) = true) (hx : PassD X δ ET)
    (h : tp [] A Q ET) (hdb : (x == ("__debug__" : Str)) = false := by decide) : WPE X (.Call (.Name x p_) [] [] pos) δ A Q := fun σ H sl r pins s I => by
  refine wpAny_Call_Name_kw (ld_glob I (B.gl hg) hm ?_ hdb)
  exact PySem.W.callWith_K0 I.kIn hk (run_T F hr hx sl I .nil .nil r h)
/-- a call with a star behind a plain argument -/
theorem BC.callS2 {x : Str} (B : BC X N sc) (F : FnT X.prog X.w X.K X.mg X.base k f tp) (hr : Room k X.A) (hg : sc.names.lookup x = some .globalImplicit) (hm : X.mg x = some (.ref f)) (hk : PySem.W.keepIn X.K (.ref f) = true) (hx : PassD X δ ET)
    (h : WPA X (e :: es) δ A fun ds A1 => tp ds A1 Q ET) (hdb : (x == ("__debug__" : Str)) = false := by decide) (he : starEach (e :: es) X.env = (false, eval e X.env) :: starEach es X.env := by rfl) (hst : (backTo pos (starEach es X.env)).any (·.1) = true := by rfl) :
    WPE X (.Call (.Name x p_) (e :: es) [] pos) δ A Q := fun σ H sl r pins s I => by
  refine wpAny_Call_Name_kw (ld_glob I (B.gl hg) hm ?_ hdb)
  refine PySem.W.callWith_S2 (h₀ := X.base) I.ok.mod.kin hk (thn (h σ H sl r pos pins s I) fun us s1 ⟨vs, H1, I1, rv, ds, A1, k1, rps, hr1, q⟩ => ⟨I1.kIn, ?_⟩) he hst
  exact thn (run_T F hr hx (sl.keep k1) I1 rv rps hr1 q) fun u s' => EP.from k1
theorem BC.ecall {x : Str} (B : BC X N sc) (F : FnT X.prog X.w X.K X.mg X.base k f tp) (hr : Room k X.A) (hg : sc.names.lookup x = some .globalImplicit) (hm : X.mg x = some (.ref f)) (hk : PySem.W.keepIn X.K (.ref f) = true)
    (ha : EvA X (e :: es) δ A ds) (h : ∀ A1, Sub A A1 → ∀ Q : TQ, Q z A1 → tp ds A1 Q NoX) (hdb : (x == ("__debug__" : Str)) = false := by decide) (he : starEach (e :: es) X.env = (false, eval e X.env) :: starEach es X.env := by rfl) (hpl : (backTo pos (starEach es X.env)).any (·.1) = false := by rfl) :
    Ev X (.Call (.Name x p_) (e :: es) [] pos) δ A z := fun A1 k Q q => B.call F hr hg hm hk pass0 (ha A1 k _ (h A1 k Q q)) hdb he hpl
theorem BC.ncall {x : Str} {ob : MO} (B : BC X N sc) (F : FnT X.prog X.w X.K X.mg X.base k f tp) (hr : Room k X.A) (hg : sc.names.lookup x = some .globalImplicit) (hm : X.mg x = some (.ref f)) (hk : PySem.W.keepIn X.K (.ref f) = true)
    (ha : EvA X (e :: es) δ A ds) (h : ∀ A1, Sub A A1 → ∀ Q : TQ, (∀ p, A1 p = none → Q (.ref p) (updA A1 p (.prim ob))) → tp ds A1 Q NoX) (hdb : (x == ("__debug__" : Str)) = false := by decide) (he : starEach (e :: es) X.env = (false, eval e X.env) :: starEach es X.env := by rfl) (hpl : (backTo pos (starEach es X.env)).any (·.1) = false := by rfl) :
    EvN X (.Call (.Name x p_) (e :: es) [] pos) δ A ob := fun A1 k Q q => B.call F hr hg hm hk pass0 (ha A1 k _ (h A1 k Q q)) hdb he hpl

/-! ### instances -/
/-- at p an instance of the class at C, without an attribute m -/
def InsT (K : PySem.W.Frag) (A : AH) (p C : Addr) (m : Str) : Prop := ∀ H, HR K A H → ∃ dx gs, H p = some (.ins C dx gs) ∧ gs.lookup m = none
theorem insT_prim {K : PySem.W.Frag} {p : Addr} {m : Str} {fs : List (Str × TL.D)} (h : A p = some (.prim (.ins C fs))) (l : fs.lookup m = none) : InsT K A p C m := fun H hr => by
  obtain ⟨dx, gs, h1, h2⟩ := hr.at_ h
  exact ⟨dx, gs, h1, kvr_none h2 l⟩
theorem insT_abs {K : PySem.W.Frag} {p : Addr} {m : Str} {R : MH → Prop} (h : A p = some (.abs R)) (l : ∀ mm, R mm → ∃ fs, mm p = some (.ins C fs) ∧ fs.lookup m = none) : InsT K A p C m := fun H hr => by
  obtain ⟨mm, h1, h2, h3, h4⟩ := hr.open_ h
  obtain ⟨fs, e1, e2⟩ := l mm h1
  exact insT_prim (over_some e1) e2 H h4
theorem wpe_meth {m : Str} {pl : Sem Bool} (cl : Cls X.K C) (hm : Meth X.K C m f) (F : FnT X.prog X.w X.K X.mg X.base k f tp) (hr : Room k X.A) (hx : PassD X δ ET)
    (h : WPE X o δ A fun x A1 => ∃ p, x = .ref p ∧ InsT X.K A1 p C m ∧ WPA X (e :: es) δ A1 fun ds A2 => tp (.ref p :: ds) A2 Q ET)
    (hst : starEach (e :: es) X.env = (false, eval e X.env) :: starEach es X.env := by rfl) (hpl : (backTo pos (starEach es X.env)).any (·.1) = false := by rfl)
    (ht : eval (.Call (.Attribute o m apos) (e :: es) [] pos) X.env = (do
      let ov ← eval o X.env
      standAt apos.atName
      let (f, first) ← holding [ov] (getMethod ov m pl)
      callWith pos f first (backTo pos (starEach (e :: es) X.env)) (backToKw pos (keywordEach [] X.env))) := by rfl) : WPE X (.Call (.Attribute o m apos) (e :: es) [] pos) δ A Q := fun σ H sl r pins s I => by
  refine PySem.W.methodCall_KW (pl := pl) (thn (h σ H sl r pins s I) fun u s1 ⟨v, H1, I1, rx, d, A1, k1, rp, hr1, p, e1, it, q⟩ => ?_) ht
  subst e1
  cases rp
  obtain rfl : u = Value.ref p := rx
  obtain ⟨dx, gs, ea, l⟩ := it H1 hr1
  refine getmeth_ok I1 ea cl hm l ?_
  refine PySem.W.callWith_K (first := [.ref p]) (h₀ := X.base) I.ok.mod.kin hm.kp (thn (q σ H1 (sl.keep k1) hr1 pos pins s1 I1) fun us s2 ⟨vs, H2, I2, rv, ds, A2, k2, rps, hr2, q2⟩ => ⟨I2.kIn, ?_⟩) hst hpl
  exact thn (run_T (us := .ref p :: us) (vs := .ref p :: vs) F hr hx (sl.keep (k1.trans k2)) I2 (.cons rfl rv) (.cons .ref rps) hr2 q2) fun u s' => EP.from (k1.trans k2)
theorem wpe_meth0 {m : Str} {pl : Sem Bool} (cl : Cls X.K C) (hm : Meth X.K C m f) (F : FnT X.prog X.w X.K X.mg X.base k f tp) (hr : Room k X.A) (hx : PassD X δ ET)
    (h : WPE X o δ A fun x A1 => ∃ p, x = .ref p ∧ InsT X.K A1 p C m ∧ tp [.ref p] A1 Q ET)
    (ht : eval (.Call (.Attribute o m apos) [] [] pos) X.env = (do
      let ov ← eval o X.env
      standAt apos.atName
      let (f, first) ← holding [ov] (getMethod ov m pl)
      callWith pos f first (backTo pos (starEach [] X.env)) (backToKw pos (keywordEach [] X.env))) := by rfl) : WPE X (.Call (.Attribute o m apos) [] [] pos) δ A Q := fun σ H sl r pins s I => by
  refine PySem.W.methodCall_KW (pl := pl) (thn (h σ H sl r pins s I) fun u s1 ⟨v, H1, I1, rx, d, A1, k1, rp, hr1, p, e1, it, q⟩ => ?_) ht
  subst e1
  cases rp
  obtain rfl : u = Value.ref p := rx
  obtain ⟨dx, gs, ea, l⟩ := it H1 hr1
  refine getmeth_ok I1 ea cl hm l ?_
  exact PySem.W.callWith_K0 (first := [.ref p]) I1.kIn hm.kp (thn (run_T (us := [.ref p]) (vs := [.ref p]) F hr hx (sl.keep k1) I1 (.cons rfl .nil) (.cons .ref .nil) hr1 q) fun u s' => EP.from k1)
/-- a new instance -/
theorem run_makeT (M : Mk X.K C f) (F : FnT X.prog X.w X.K X.mg X.base k f tp) (hr : Room (k + 1) X.A) (hx : PassD X δ ET) (sl : Sl X.K H σ δ) (I : Inv X pins σ H s) (rv : Vals vs us) (rp : Rps X.K H vs ds) (hR : HR X.K A H)
    (h : ∀ x, A x = none → tp (.ref x :: ds) (updA A x (.prim (.ins C []))) (fun d A2 => d = .non ∧ Q (.ref x) A2) ET) : wpAny (model X.prog X.w) X.A (call (.ref C) us) (EP X pins σ (LQ X.K H Q)) X.xe s := by
  have hq : ∀ x dx, H x = none → H dx = none → dx ≠ x → liftSp X.K tp (.ref x :: vs) (upd (upd H dx (.own x)) x (.ins C dx [])) (fun v H2 => v = .non ∧ LQ X.K H Q (.ref x) H2) (EXT X.K (upd (upd H dx (.own x)) x (.ins C dx [])) ET) := fun x dx nx nd ne => by
    have e1 := ex_upd (o := .own x) nd
    have n1 : (upd H dx (.own x)) x = none := by rw [upd_ne (Ne.symm ne)]; exact nx
    have e2 : ∀ a u, H a = some u → (upd (upd H dx (.own x)) x (.ins C dx [])) a = some u := fun a u q => ex_upd n1 a u (e1 a u q)
    have kk : Kp X.K H (upd (upd H dx (.own x)) x (.ins C dx [])) := kp_ex e2
    have hr1 : HR X.K A (upd H dx (.own x)) := hR.stay (kp_ex e1) e1
    refine ⟨.ref x :: ds, _, _, ET, .cons .ref (Rps.keep rp kk), hr1.new (o := .ins C []) n1 (kp_ex (ex_upd n1)) (ex_upd n1) ⟨dx, [], upd_same, .nil⟩, h x (hR.free nx), fun v H' ⟨d, A', k', rp', hr', ed, q⟩ => ?_, fun cls o H' q => q⟩
    subst ed
    cases rp'
    exact ⟨rfl, .ref x, A', kk.trans k', .ref, hr', q⟩
  have mk2 : ∀ x dx, H x = none → H dx = none → dx ≠ x → Kp X.K H (upd (upd H dx (.own x)) x (.ins C dx [])) := fun x dx nx nd ne => by
    have n1 : (upd H dx (.own x)) x = none := by rw [upd_ne (Ne.symm ne)]; exact nx
    exact kp_ex fun a u q => ex_upd n1 a u (ex_upd nd a u q)
  have kk2 := mk2 (s.heap.objs.size + 1) s.heap.objs.size (I.hok.fresh (Nat.le_succ _)) (I.hok.fresh (Nat.le_refl _)) (Nat.ne_of_lt (Nat.lt_succ_self _))
  have I2 := Inv.made (C := C) I
  have r2 : Vals (V.ref (s.heap.objs.size + 1) :: vs) (Value.ref (s.heap.objs.size + 1) :: us) := .cons rfl rv
  refine wpAny_call (make_map (f := f) I.kIn M.makes M.init (beq_iff_eq.mp M.fn) (codeAny_mono (F _ X.stack _ _ (Value.ref (s.heap.objs.size + 1) :: us) _ _ _ (hr.make C us []) (I2.env0.make C us []) r2
    (hq (s.heap.objs.size + 1) s.heap.objs.size (I.hok.fresh (Nat.le_succ _)) (I.hok.fresh (Nat.le_refl _)) (Nat.ne_of_lt (Nat.lt_succ_self _)))) fun r s' hq' => ?_))
  cases r with
  | error e => exact hx pins σ _ _ e s' I2 (sl.keep kk2) hq'
  | ok fl =>
    cases fl with
    | ret u =>
      obtain ⟨v, H', I3, rv, ev, q3⟩ := I2.after hq'
      subst ev
      exact ⟨rv, ⟨V.ref (s.heap.objs.size + 1), H', I3, rfl, q3⟩⟩
    | next => exact False.elim hq'
    | brk => exact False.elim hq'
    | cont => exact False.elim hq'
theorem BC.make0 {x : Str} (B : BC X N sc) (M : Mk X.K C f) (F : FnT X.prog X.w X.K X.mg X.base k f tp) (hr : Room (k + 1) X.A) (hg : sc.names.lookup x = some .globalImplicit) (hm : X.mg x = some (.ref C)) (hx : PassD X δ ET)
    (h : ∀ p, A p = none → tp [.ref p] (updA A p (.prim (.ins C []))) (fun d A2 => d = .non ∧ Q (.ref p) A2) ET) (hdb : (x == ("__debug__" : Str)) = false := by decide) : WPE X (.Call (.Name x p_) [] [] pos) δ A Q := fun σ H sl r pins s I => by
  refine wpAny_Call_Name_kw (ld_glob I (B.gl hg) hm ?_ hdb)
  exact PySem.W.callWith_K0 I.kIn M.kp (run_makeT (us := []) M F hr hx sl I .nil .nil r h)
theorem BC.make {x : Str} (B : BC X N sc) (M : Mk X.K C f) (F : FnT X.prog X.w X.K X.mg X.base k f tp) (hr : Room (k + 1) X.A) (hg : sc.names.lookup x = some .globalImplicit) (hm : X.mg x = some (.ref C)) (hx : PassD X δ ET)
    (h : WPA X (e :: es) δ A fun ds A1 => ∀ p, A1 p = none → tp (.ref p :: ds) (updA A1 p (.prim (.ins C []))) (fun d A2 => d = .non ∧ Q (.ref p) A2) ET) (hdb : (x == ("__debug__" : Str)) = false := by decide)
    (he : starEach (e :: es) X.env = (false, eval e X.env) :: starEach es X.env := by rfl) (hpl : (backTo pos (starEach es X.env)).any (·.1) = false := by rfl) : WPE X (.Call (.Name x p_) (e :: es) [] pos) δ A Q := fun σ H sl r pins s I => by
  refine wpAny_Call_Name_kw (ld_glob I (B.gl hg) hm ?_ hdb)
  refine PySem.W.callWith_K (h₀ := X.base) I.ok.mod.kin M.kp (thn (h σ H sl r pos pins s I) fun us s1 ⟨vs, H1, I1, rv, ds, A1, k1, rps, hr1, q⟩ => ⟨I1.kIn, ?_⟩) he hpl
  exact thn (run_makeT M F hr hx (sl.keep k1) I1 rv rps hr1 q) fun u s' => EP.from k1
end

/-! ### defs -/
def startD (N : List Str) (ds : List TL.D) : Ds := ds.map some ++ List.replicate (N.length - ds.length) none
theorem sl_start {K : PySem.W.Frag} {H : Hp} {vs : List V} {ds : List TL.D} (r : Rps K H vs ds) : Sl K H (L2.start N vs) (startD N ds) := by
  have hl := Paired.length r
  refine ⟨by unfold L2.start startD; simp [hl], fun i d h => ?_⟩
  unfold startD at h
  by_cases hi : i < ds.length
  · rw [List.getElem?_append_left (by simpa using hi), List.getElem?_map] at h
    cases e : ds[i]? with
    | none => rw [e] at h; cases h
    | some d' =>
      rw [e] at h
      cases h
      obtain ⟨v, h1, h2⟩ := Paired.get1 r e
      refine ⟨v, ?_, h2⟩
      unfold L2.start
      rw [List.getElem?_append_left (by rw [List.length_map, hl]; exact hi), List.getElem?_map, h1]
      rfl
  · rw [List.getElem?_append_right (by simpa using hi), List.getElem?_replicate] at h
    split at h <;> cases h
def RV (Q : TQ) : TQ := fun d A => ∃ A', Vw A A' ∧ Q d A'
theorem RV.mk (q : Q d A) : RV Q d A := ⟨A, Vw.refl A, q⟩
theorem RV.sub {A' : AH} (s : Sub A' A) (q : Q d A') : RV Q d A := ⟨A', Vw.sub s, q⟩
theorem RV.lq {K : PySem.W.Frag} {H : Hp} {v : V} {H' : Hp} (h : LQ K H (RV Q) v H') : LQ K H Q v H' := by
  obtain ⟨d, A', k, rp, hr, A'', vw, q⟩ := h
  exact ⟨d, A'', k, rp, vw _ _ hr, q⟩
theorem kp_inv {pins : List (Addr × Obj)} {σ : St} {H : Hp} {s : Shared} (I : Inv X pins σ H s) : Kp X.K X.H_0 H := fun a xs h => by
  rcases h with (h | ⟨o, h⟩) | h
  · exact .inl (.inl (I.base.tups _ _ h))
  · exact .inl (.inr ⟨o, I.base.frzs _ _ _ h⟩)
  · exact .inr h
section
variable {P : Program} {w : World} {K : PySem.W.Frag} {mg : Str → Option Value} {base : Heap} {name qual : Str} {params : Arguments} {body : List Stmt} {scope : Scope} {f : Addr} {fd : FuncData} {ps : List Str} {k : Nat} {tp : TSp}
/-- what a body may lean on -/
structure Bd (P : Program) (w : World) (K : PySem.W.Frag) (mg : Str → Option Value) (base : Heap) (N : List Str) (scope : Scope) (k : Nat) (X : Cx) : Prop where
  prog : X.prog = P
  w : X.w = w
  K : X.K = K
  mg : X.mg = mg
  base : X.base = base
  sc : SC X N scope
  room : Room k X.A
  stk : X.stack = X.env :: X.outer
  frm : X.env.frame = some X.env.locals
abbrev BodyT (P : Program) (w : World) (K : PySem.W.Frag) (mg : Str → Option Value) (base : Heap) (N : List Str) (scope : Scope) (k : Nat) (body : List Stmt) (tp : TSp) : Prop :=
  ∀ (X : Cx), Bd P w K mg base N scope k X → ∀ (ds : List TL.D) (A : AH) (Q : TQ) (ET : TXQ), TakesT X ET → tp ds A Q ET → WPB X body (startD N ds) A { nx := fun _ A' => RV Q .non A', rt := RV Q }
theorem body_of {cdv : Value} {A0 : Around} {outer : List Env} {s : Shared} {H : Hp} {vs : List V} {Q : VK} {E : XK} (S : FnScope N ps scope) (hbody : BodyT P w K mg base N scope k body tp) (hr : Room k (A0.deeper (envOfC qual scope s.heap.objs.size f cdv))) (hsp : liftSp K tp vs H Q E) :
    ∃ t, PSs (cxOf (L2N.CX P w) P w K mg base N qual scope f cdv A0 outer s H E) body t ∧ t { nx := fun _ H' => Q .non H', rt := Q } (L2.start N vs) H := by
  obtain ⟨ds, A, QT, ET, rp, hR, ht, hQ, hE⟩ := hsp
  refine ⟨runB (cxOf (L2N.CX P w) P w K mg base N qual scope f cdv A0 outer s H E) body, pss_run, ?_⟩
  have bd : Bd P w K mg base N scope k (cxOf (L2N.CX P w) P w K mg base N qual scope f cdv A0 outer s H E) := ⟨rfl, rfl, rfl, rfl, rfl, ⟨⟨rfl, S.nd, rfl, fun _ h => h, fun _ h => h⟩, rfl, fun _ => rfl, passes_of rfl⟩, hr, rfl, rfl⟩
  have tk : Takes (cxOf (L2N.CX P w) P w K mg base N qual scope f cdv A0 outer s H E) (fun cls d _ H => E cls d H) := takes_of rfl rfl rfl rfl
  have pt : TakesT (cxOf (L2N.CX P w) P w K mg base N qual scope f cdv A0 outer s H E) ET := fun u s' x =>
    tk u s' (xe_imp (fun cls o σ' H' pins sI I ⟨fs, A', xf, q⟩ => hE cls o H' ⟨fs, A', kp_inv I, xf, q⟩) x)
  refine runB.mono (hbody _ bd ds A QT ET pt ht (L2.start N vs) H (sl_start rp) hR) (fun σ' H' h => ?_) (fun v H' h => hQ v H' (RV.lq h)) (fun σ' H' ⟨_, _, _, _, _, q⟩ => q) fun σ' H' ⟨_, _, _, _, _, q⟩ => q
  obtain ⟨δ', A', k', _, hr', q⟩ := h
  exact hQ _ _ (RV.lq ⟨.non, A', k', .non, hr', q⟩)
/-- THE RULE for a def -/
theorem fn_T (Fd : FunD K name qual params body scope [] [] f fd) (S : FnScope N ps scope) (hb : Binds K fd ps []) (len : ∀ ds A Q E, tp ds A Q E → ds.length = ps.length) (hbody : BodyT P w K mg base N scope k body tp) : FnT P w K mg base (k + 1) f tp := by
  have G : FnOk P w K mg base (L2N.CX P w) (k + 1) f fd ps (liftSp K tp) := Fd.ok S (fun vs H Q E ⟨ds, A, QT, ET, rp, _, ht, _⟩ => (Paired.length rp).trans (len ds A QT ET ht)) fun cdv A0 outer s H vs Q E hr hsp => body_of S hbody hr hsp
  refine FnR.imp (G.raw hb (dvs := []) .nil) fun vs H Q E h => ?_
  rw [List.append_nil]; exact h
/-- a call's exception, seen from ahead of what was laid for the call -/
theorem cxUpN {P : Program} {w : World} : StX.CXUp (L2N.CX P w) := fun outer s H s2 H2 E e s' un kp ho h => by
  obtain ⟨a, B, H', cls, d, ea, fl, hok, ub, na, os, ag, he⟩ := h
  have fr0 : ∀ b o, s.heap.get? b = some o → H b = none → H2 b = none := fun b o q n => un.free b o q n (List.not_mem_nil)
  have tb : ∀ b ps, H b = some (.tbl ps) → ∃ more : Array _, H' b = some (.tbl (ps ++ more)) := fun b ps q => by
    obtain ⟨m1, e1⟩ := un.tbls b ps q
    obtain ⟨m2, e2⟩ := ub.tbls b _ e1
    exact ⟨m1 ++ m2, by rw [e2, Array.append_assoc]⟩
  exact ⟨a, B, H', cls, d, ea, fl, hok, { keep := fun b o q n hb => ub.keep b o (kp b o q) (fr0 b o q n) hb, slot := fun b o q hb => ub.slot b o (kp b o q) hb, free := fun b o q n => ub.free b o (kp b o q) (fr0 b o q n), there := fun b o q hb => ub.there b o (kp b o q) hb, tups := fun b xs q => ub.tups b xs (un.tups b xs q), frzs := fun b o xs q => ub.frzs b o xs (un.frzs b o xs q), tbls := tb }, na, os.trans ho, ag, he⟩
/-- a def whose last parameter is *pv -/
theorem fn_TS {pv : Str} (Fd : FunD K name qual params body scope [] [] f fd) (S : FnScope N (ps ++ [pv]) scope) (hb : ∀ us rest : List Value, us.length = ps.length → bindArgs fd ⟨us ++ rest, []⟩ = (newTuple rest >>= fun t => pure (ps.zip us ++ [(pv, t)])))
    (hbody : BodyT P w K mg base N scope k body tp) : FnT P w K mg base (k + 1) f (fun ds A Q E => ∃ ws rest, ds = ws ++ rest ∧ ws.length = ps.length ∧ rest.length ≤ sizeLine ∧ tp (ws ++ [.tup rest]) A Q E) := by
  obtain ⟨oc, od, dV, kV, doc, pm, an, cdv, ct, osl, rfl, lk, hcd, _, _⟩ := Fd.ex
  refine FnR.imp (StX.fn_star (sp := liftSp K tp) (ps := ps) (pv := pv) lk hcd S cxUpN hb fun A0 outer s H vs Q E hr hsp => body_of S hbody hr hsp) fun vs H Q E h => ?_
  obtain ⟨ds, A, QT, ET, rp, hR, ⟨ws, rest, rfl, hl, hz, ht⟩, hQ, hE⟩ := h
  obtain ⟨v1, v2, rfl, r1, r2⟩ := Paired.split_ rp
  refine ⟨v1, v2, rfl, (Paired.length r1).trans hl, by rw [Paired.length r2]; exact hz, fun p hp => ?_⟩
  have e := ex_upd (o := .tup v2) hp
  have kk : Kp K H (upd H p (.tup v2)) := kp_ex e
  exact ⟨ws ++ [.tup rest], A, QT, ET, Paired.app (Rps.keep r1 kk) (.cons (Rp.tups (.of upd_same) (Rps.keep r2 kk)) .nil), hR.stay kk e, ht, fun v H' q => hQ v H' (LQ.from kk q), fun cls o H' ⟨fs, A', k', xf, q⟩ => hE cls o H' ⟨fs, A', kk.trans k', xf, q⟩⟩
end
end TL
/-! The tree layer: comprehensions. -/
namespace TL
open PySem PySem.Spec PyProof.Rows L2
variable {X : Cx} {N : List Str} {sc : Scope} {e a b c o i_ v_ : Expr} {es : List Expr} {st : Stmt} {rest : List Stmt} {δ : Ds} {A : AH} {Q : TQ} {D : TEnds} {d x y z : TL.D} {pos apos p_ : Pos}

def wipeD (δ : Ds) : List Nat → Ds
  | [] => δ
  | v :: vs => (wipeD δ vs).set v none
theorem wipeD_len (δ : Ds) : ∀ vs : List Nat, (wipeD δ vs).length = δ.length
  | [] => rfl
  | v :: vs => by unfold wipeD; rw [List.length_set, wipeD_len δ vs]
theorem sl_wipe {K : PySem.W.Frag} {H : Hp} {σ : St} (h : Sl K H σ δ) : ∀ vs : List Nat, Sl K H (wipe σ vs) (wipeD δ vs)
  | [] => h
  | v :: vs => by
    have ih := sl_wipe h vs
    refine ⟨by unfold wipe wipeD; rw [List.length_set, List.length_set]; exact ih.len, fun i d e => ?_⟩
    unfold wipeD at e
    unfold wipe
    by_cases q : i = v
    · subst q
      by_cases hl : i < (wipeD δ vs).length
      · rw [List.getElem?_set_self hl] at e; cases e
      · rw [List.getElem?_eq_none (by rw [List.length_set]; omega)] at e; cases e
    · rw [List.getElem?_set_ne (Ne.symm q)] at e ⊢
      exact ih.at_ i d e
theorem wipe_at {σ : St} {i : Nat} : ∀ {vs : List Nat}, (wipe σ vs)[i]? = if i ∈ vs then (if i < σ.length then some none else none) else σ[i]?
  | [] => by simp [wipe]
  | v :: vs => by
    unfold wipe
    by_cases q : i = v
    · subst q
      rw [if_pos (List.mem_cons_self ..)]
      by_cases hl : i < σ.length
      · rw [List.getElem?_set_self (by rw [wipe_length]; exact hl), if_pos hl]
      · rw [if_neg hl, List.getElem?_eq_none (by rw [List.length_set, wipe_length]; omega)]
    · rw [List.getElem?_set_ne (Ne.symm q), wipe_at (vs := vs)]
      by_cases m : i ∈ vs
      · rw [if_pos m, if_pos (List.mem_cons_of_mem _ m)]
      · rw [if_neg m, if_neg (by simp [q, m])]
theorem wipe_set {σ : St} {j : Nat} {v : Option V} {vs : List Nat} (h : j ∈ vs) : wipe ((wipe σ vs).set j v) vs = wipe σ vs := by
  refine List.ext_getElem? fun i => ?_
  rw [wipe_at, wipe_at]
  by_cases m : i ∈ vs
  · rw [if_pos m, if_pos m, List.length_set, wipe_length]
  · rw [if_neg m, if_neg m]
    have q : i ≠ j := fun z => m (z ▸ h)
    rw [List.getElem?_set_ne (Ne.symm q), wipe_at, if_neg m]

/-! ### the block of a comprehension, wherever it runs -/
abbrev Blk (X : Cx) (scope : Scope) (s : Shared) (H0 : Hp) (C : Addr) (cl : List (Str × Addr)) (fp : List Addr) : Cx := X.blk s H0 scope (compEnvC scope cl C X.env) fp
def famE (X : Cx) (scope : Scope) (e : Expr) : TE := fun σ H Q => ∀ s H0 C cl fp, runE (Blk X scope s H0 C cl fp) e σ H Q
def famT (X : Cx) (scope : Scope) (e : Expr) : TT := fun σ H Q => ∀ s H0 C cl fp, runT (Blk X scope s H0 C cl fp) e σ H Q
def WVA (W : Nat → AH → Prop) (i : Nat) (A : AH) : Prop := ∃ A', Vw A A' ∧ W i A'
/-- the tests of a comprehension: none or one -/
inductive Ifs where
  | no | one (c : Expr)
def Ifs.list : Ifs → List Expr
  | .no => []
  | .one c => [c]
def famI (X : Cx) (scope : Scope) : Ifs → TT
  | .no => tYes
  | .one c => famT X scope c
def EvF (X : Cx) (scope : Scope) (δ : Ds) (A : AH) (k : Bool) : Ifs → Prop
  | .no => k = true
  | .one c => ∀ s H0 C cl fp, EvT (Blk X scope s H0 C cl fp) c δ A k
theorem BC.lcB {scope : Scope} {own : List (Str × Nat)} (B : SC X N sc) (ok : blkC N sc scope own = true) : BlkOk X.N X.env.scope scope own := by rw [B.n, B.sc]; exact blkOk_by ok
theorem BC.lcG {scope : Scope} {s : Str} {j : Nat} {pt : Pos} (B : SC X N sc) (hj : N[j]? = some s) (hl : scope.names.lookup s = some .local) (st : Shared) (H0 : Hp) (C : Addr) (cl : List (Str × Addr)) (fp : List Addr) : PG (Blk X scope st H0 C cl fp) (.Name s pt) (gName j) := by
  have z : (relabel scope X.env).names.lookup s = some .local := by
    rcases lookup_relabel (env := X.env) hl with z | ⟨z, _⟩
    · exact z
    · cases z
  exact pg_name B.nd (by show X.N[j]? = some s; rw [B.n]; exact hj) (.inl z) (.inr z)
theorem BC.lcT {scope : Scope} (q : Ifs) (st : Shared) (H0 : Hp) (C : Addr) (cl : List (Str × Addr)) (fp : List Addr) : PTs (Blk X scope st H0 C cl fp) q.list (famI X scope q) := by
  cases q with
  | no => exact pts_nil
  | one c => exact pts_one ⟨fun pins s' σ' H' Q' I z => z st H0 C cl fp pins s' I⟩
theorem BC.lcE {scope : Scope} {elt : Expr} (st : Shared) (H0 : Hp) (C : Addr) (cl : List (Str × Addr)) (fp : List Addr) : PE (Blk X scope st H0 C cl fp) elt (famE X scope elt) := ⟨fun pins s' σ' H' Q' I z => z st H0 C cl fp pins s' I⟩
theorem BC.lcC {scope : Scope} {own : List (Str × Nat)} {s : Str} {j : Nat} {elt iter : Expr} {pt : Pos} (q : Ifs) (B : SC X N sc) (ok : blkC N sc scope own = true) (hj : N[j]? = some s) (hl : scope.names.lookup s = some .local) (hv : j ∈ own.map (·.2))
    (h : WPI X (.Name s pt) iter δ A fun n f G A1 => ∀ Dl, A1 Dl = none → ∃ (W : Nat → AH → Prop) (kp : Nat → Bool), W 0 (updA A1 Dl (.prim (.lst []))) ∧ (∀ i A', i ≤ n → W i A' → G A') ∧
      (∀ i A', i < n → W i A' → EvF X scope ((wipeD δ (own.map (·.2))).set j (some (f i))) A' (kp i) q ∧
        (kp i = true → ∀ s H0 C cl fp, WPE (Blk X scope s H0 C cl fp) elt ((wipeD δ (own.map (·.2))).set j (some (f i))) A' fun d A4 => ∃ acc, A4 Dl = some (.prim (.lst acc)) ∧ acc.length < sizeLine ∧ WVA W (i + 1) (updA A4 Dl (.prim (.lst (acc ++ [d]))))) ∧
        (kp i = false → WVA W (i + 1) A')) ∧
      (∀ A', W n A' → Q (.ref Dl) A'))
    {σ : St} {H : Hp} (sl : Sl X.K H σ δ) (r : HR X.K A H) {R : VK} (hR : ∀ v H', LQ X.K H Q v H' → R v H') : tLc (runI X (.Name s pt) iter) (gName j) (famI X scope q) (famE X scope elt) (own.map (·.2)) σ H R := by
  refine h σ H sl r _ fun J H1 n f G A1 YG k1 hr1 wk hG h2 => fun Dl hD => ?_
  obtain ⟨W, kp, h0, hg, hstep, hend⟩ := h2 Dl (hr1.free hD)
  have ex := ex_upd (o := .lst []) hD
  have kk : Kp X.K H1 (upd H1 Dl (.lst [])) := kp_ex ex
  refine lc_it wk (fun i H' => ∃ A', Kp X.K H1 H' ∧ HR X.K A' H' ∧ W i A') ⟨_, kk, hr1.new (o := .lst []) hD kk ex ⟨[], upd_same, .nil⟩, h0⟩ (fun i H' hi ⟨A', k, hr, w⟩ => hG A' H' k hr (hg i A' hi w)) (fun i v H' H'' hi ⟨A', k, hr, w⟩ ⟨ky, ay, rp⟩ => ⟨wipe_set hv, ?_⟩) fun H' ⟨A', k, hr, w⟩ => hR _ _ ⟨.ref Dl, A', k1.trans k, .ref, hr, hend A' w⟩
  have hr' := ay A' hr
  have k' : Kp X.K H1 H'' := k.trans ky
  have sl' : Sl X.K H'' ((wipe σ (own.map (·.2))).set j (some v)) ((wipeD δ (own.map (·.2))).set j (some (f i))) := ((sl_wipe sl _).keep (k1.trans k')).set j rp
  obtain ⟨z1, z2, z3⟩ := hstep i A' hi w
  have body : ∀ (k : Bool) (H3 : Hp), k = kp i → Kp X.K H'' H3 → HR X.K A' H3 →
      if k = true then famE X scope elt ((wipe σ (own.map (·.2))).set j (some v)) H3 (fun y H4 => ∃ acc, H4 Dl = some (.lst acc) ∧ acc.length < sizeLine ∧ ∃ A', Kp X.K H1 (upd H4 Dl (.lst (acc ++ [y]))) ∧ HR X.K A' (upd H4 Dl (.lst (acc ++ [y]))) ∧ W (i + 1) A') else ∃ A', Kp X.K H1 H3 ∧ HR X.K A' H3 ∧ W (i + 1) A' := fun k H3 ek k3 hr3 => by
    cases k with
    | true =>
      rw [if_pos rfl]
      refine fun st H0 C cl fp => runE.mono ((z2 ek.symm st H0 C cl fp) _ H3 (sl'.keep k3) hr3) fun vd H4 ⟨d, A4, k4, rd, hr4, acc, ha, hl, A5, vw, w5⟩ => ?_
      obtain ⟨ws, hw, rw'⟩ := hr4.at_ ha
      obtain ⟨k5, hr5⟩ := hr_write (m' := .lst (acc ++ [d])) (u' := .lst (ws ++ [vd])) hr4 ha hw (by intro _ z; cases z) (by intro _ _ z; cases z) fun k => ⟨_, upd_same, Rps.keep (Paired.app rw' (.cons rd .nil)) k⟩
      exact ⟨ws, hw, by rw [Paired.length rw']; exact hl, A5, ((k'.trans k3).trans k4).trans k5, vw _ _ hr5, w5⟩
    | false =>
      rw [if_neg Bool.false_ne_true]
      obtain ⟨A5, vw, w5⟩ := z3 ek.symm
      exact ⟨A5, k'.trans k3, vw _ _ hr3, w5⟩
  cases q with
  | no =>
    have e1 : true = kp i := Eq.symm z1
    exact body true H'' e1 (Kp.refl _) hr'
  | one c => exact fun st H0 C cl fp => runT.mono ((z1 st H0 C cl fp) A' (Sub.refl A') (fun b A2 => b = kp i ∧ A2 = A') ⟨rfl, rfl⟩ _ H'' sl' hr') fun b H3 ⟨A2, k3, hr3, e1, e2⟩ => by subst e2; exact body b H3 e1 k3 hr3

theorem BC.lc {scope : Scope} {own : List (Str × Nat)} {s : Str} {j : Nat} {elt iter : Expr} {pt : Pos} (q : Ifs) (B : SC X N sc) (ok : blkC N sc scope own = true) (hj : N[j]? = some s) (hl : scope.names.lookup s = some .local) (hv : j ∈ own.map (·.2))
    (h : WPI X (.Name s pt) iter δ A fun n f G A1 => ∀ Dl, A1 Dl = none → ∃ (W : Nat → AH → Prop) (kp : Nat → Bool), W 0 (updA A1 Dl (.prim (.lst []))) ∧ (∀ i A', i ≤ n → W i A' → G A') ∧
      (∀ i A', i < n → W i A' → EvF X scope ((wipeD δ (own.map (·.2))).set j (some (f i))) A' (kp i) q ∧
        (kp i = true → ∀ s H0 C cl fp, WPE (Blk X scope s H0 C cl fp) elt ((wipeD δ (own.map (·.2))).set j (some (f i))) A' fun d A4 => ∃ acc, A4 Dl = some (.prim (.lst acc)) ∧ acc.length < sizeLine ∧ WVA W (i + 1) (updA A4 Dl (.prim (.lst (acc ++ [d]))))) ∧
        (kp i = false → WVA W (i + 1) A')) ∧
      (∀ A', W n A' → Q (.ref Dl) A')) (hs : ∀ x, foldedSetIterable iter X.env x = pure x := by intro _; rfl) : WPE X (.ListComp elt [⟨.Name s pt, iter, q.list, 0⟩] scope pos) δ A Q := fun σ H sl r =>
  runE.of (pe_lc (own := own) (wi := runI X (.Name s pt) iter) (g := gName j) (tt := famI X scope q) (te := famE X scope elt) B.calm B.nd pi_run (BC.lcB B ok) (BC.lcG B hj hl) (BC.lcT q) BC.lcE hs) (BC.lcC q B ok hj hl hv h sl r fun _ _ z => z)
/-- name = [..] on one line -/
theorem SC.setLc {y : Str} {iy : Nat} {py spos : Pos} {scope : Scope} {own : List (Str × Nat)} {s : Str} {j : Nat} {elt iter : Expr} {pt : Pos} (q : Ifs) (B : SC X N sc) (hk : sc.kind = .function) (hy : N[iy]? = some y) (hyl : sc.names.lookup y = some .local) (hln : (py.line == pos.line) = true) (hna : (scope.names.any fun (n, k) => n == y && (k == .local || k == .cell)) = false) (ok : blkC N sc scope own = true) (hj : N[j]? = some s) (hl : scope.names.lookup s = some .local) (hv : j ∈ own.map (·.2))
    (h : WPI X (.Name s pt) iter δ A fun n f G A1 => ∀ Dl, A1 Dl = none → ∃ (W : Nat → AH → Prop) (kp : Nat → Bool), W 0 (updA A1 Dl (.prim (.lst []))) ∧ (∀ i A', i ≤ n → W i A' → G A') ∧
      (∀ i A', i < n → W i A' → EvF X scope ((wipeD δ (own.map (·.2))).set j (some (f i))) A' (kp i) q ∧
        (kp i = true → ∀ s H0 C cl fp, WPE (Blk X scope s H0 C cl fp) elt ((wipeD δ (own.map (·.2))).set j (some (f i))) A' fun d A4 => ∃ acc, A4 Dl = some (.prim (.lst acc)) ∧ acc.length < sizeLine ∧ WVA W (i + 1) (updA A4 Dl (.prim (.lst (acc ++ [d]))))) ∧
        (kp i = false → WVA W (i + 1) A')) ∧
      (∀ A', W n A' → D.nx (δ.set iy (some (.ref Dl))) A')) (hs : ∀ x, foldedSetIterable iter X.env x = pure x := by intro _; rfl) : WPS X (.Assign [.Name y py] (.ListComp elt [⟨.Name s pt, iter, q.list, 0⟩] scope pos) spos) δ A D := fun σ H sl r => by
  refine runS.of (ps_setLc (own := own) (wi := runI X (.Name s pt) iter) (g := gName j) (tt := famI X scope q) (te := famE X scope elt) B.calm B.nd (by rw [B.n]; exact hy) (by rw [B.sc]; exact hyl) (sw_true (by rw [B.sc]; exact hk) (by rw [B.sc]; exact hyl) hln hna) pi_run (BC.lcB B ok) (BC.lcG B hj hl) (BC.lcT q) BC.lcE hs) ?_
  exact BC.lcC (Q := fun d A1 => D.nx (δ.set iy (some d)) A1) q B ok hj hl hv h sl r fun v H' ⟨d, A', k, rp, hr, z⟩ => ⟨δ.set iy (some d), A', k, (sl.keep k).set iy rp, hr, z⟩

/-! ### what is walked and stays -/
def EvI (X : Cx) (tg iter : Expr) (δ : Ds) (A : AH) (xs : List TL.D) : Prop := ∀ A1, Sub A A1 → ∀ R : RW, (∀ G f, (∀ A2, Sub A1 A2 → G A2) → (∀ i, i < xs.length → xs[i]? = some (f i)) → R xs.length f G A1) → WPI X tg iter δ A1 R
theorem getD_some {xs : List TL.D} {i : Nat} (h : i < xs.length) : xs[i]? = some (xs.getD i .non) := by
  rw [List.getElem?_eq_getElem h, List.getD_eq_getElem?_getD, List.getElem?_eq_getElem h]; rfl
theorem evi_list {tg : Expr} {p : Addr} {xs : List TL.D} (h : Ev X e δ A (.ref p)) (hp : A p = some (.prim (.lst xs))) : EvI X tg e δ A xs := fun A1 k R hR =>
  wpi_list (h A1 k _ ⟨p, xs, rfl, k _ _ hp, hR _ _ (fun A2 k2 => k2 _ _ (k _ _ hp)) fun i hi => getD_some hi⟩)
theorem evi_tup {tg : Expr} {xs : List TL.D} (h : Ev X e δ A (.tup xs)) : EvI X tg e δ A xs := fun A1 k R hR => wpi_tup (h A1 k _ ⟨xs, rfl, hR _ _ (fun A2 k2 => trivial) fun i hi => getD_some hi⟩)
theorem BC.irange {tg : Expr} {p : Pos} {n : Int} (B : BC X N sc) (hg : sc.names.lookup ("range" : Str) = some .globalImplicit) (hm : X.mg "range" = none) (h : Ev X a δ A (.int n)) (h1 : n < 2 ^ 62) (h2 : -(2 ^ 62) ≤ n) (hs : starEach [a] X.env = [(false, eval a X.env)] := by rfl) :
    EvI X tg (.Call (.Name "range" p) [a] [] pos) δ A ((List.range n.toNat).map fun i => .int (i : Nat)) := fun A1 k R hR => wpi_range1 B hg hm (h A1 k _ ⟨n, rfl, h1, h2, by
  have z := hR (fun _ => True) (fun i => .int (0 + (i : Nat))) (fun _ _ => trivial) (fun i hi => by
    rw [List.length_map, List.length_range] at hi
    rw [List.getElem?_map, List.getElem?_range hi]
    show some (TL.D.int (i : Nat)) = _
    rw [Int.zero_add])
  rw [List.length_map, List.length_range] at z
  exact z⟩) hs
theorem evi_str {tg : Expr} {z : Str} (h : Ev X e δ A (.str z)) : EvI X tg e δ A (z.cps.toList.map fun c => .str ⟨#[c]⟩) := fun A1 k R hR => wpi_str (h A1 k _ ⟨z, rfl, by
  have q := hR (fun _ => True) (fun i => .str ⟨#[z.cps.getD i 0]⟩) (fun _ _ => trivial) (fun i hi => by
    rw [List.length_map] at hi
    have hi' : i < z.cps.size := by simpa using hi
    rw [List.getElem?_map, List.getElem?_eq_getElem hi]
    show some (TL.D.str ⟨#[z.cps.toList[i]]⟩) = _
    simp [Array.getD, hi'])
  rw [List.length_map, Array.length_toList] at q
  exact q⟩)
theorem lc_pure {α : Type} {scope : Scope} {own : List (Str × Nat)} {s : Str} {j : Nat} {elt iter : Expr} {pt : Pos} {ys : List α} {en : α → TL.D} (q : Ifs) (kp : α → Bool) (g : α → TL.D)
    (hi : EvI X (.Name s pt) iter δ A (ys.map en)) (hz : ys.length ≤ sizeLine) (ht : ∀ y ∈ ys, EvF X scope ((wipeD δ (own.map (·.2))).set j (some (en y))) A (kp y) q)
    (he : ∀ y ∈ ys, kp y = true → ∀ s H0 C cl fp, Ev (Blk X scope s H0 C cl fp) elt ((wipeD δ (own.map (·.2))).set j (some (en y))) A (g y)) {A1 : AH} (k : Sub A A1) {Q : TQ} (qq : ∀ p, A1 p = none → Q (.ref p) (updA A1 p (.prim (.lst ((ys.filter kp).map g))))) :
    WPI X (.Name s pt) iter δ A1 fun n f G A1 => ∀ Dl, A1 Dl = none → ∃ (W : Nat → AH → Prop) (kp : Nat → Bool), W 0 (updA A1 Dl (.prim (.lst []))) ∧ (∀ i A', i ≤ n → W i A' → G A') ∧
      (∀ i A', i < n → W i A' → EvF X scope ((wipeD δ (own.map (·.2))).set j (some (f i))) A' (kp i) q ∧
        (kp i = true → ∀ s H0 C cl fp, WPE (Blk X scope s H0 C cl fp) elt ((wipeD δ (own.map (·.2))).set j (some (f i))) A' fun d A4 => ∃ acc, A4 Dl = some (.prim (.lst acc)) ∧ acc.length < sizeLine ∧ WVA W (i + 1) (updA A4 Dl (.prim (.lst (acc ++ [d]))))) ∧
        (kp i = false → WVA W (i + 1) A')) ∧
      (∀ A', W n A' → Q (.ref Dl) A') := by
  refine hi A1 k _ fun G f hG hf => fun Dl hD => ?_
  have hyi : ∀ i, i < (ys.map en).length → ∃ y, ys[i]? = some y ∧ f i = en y ∧ y ∈ ys := fun i hi => by
    have z := hf i hi
    rw [List.getElem?_map] at z
    cases e : ys[i]? with
    | none => rw [e] at z; cases z
    | some y => rw [e] at z; exact ⟨y, rfl, (Option.some.inj z).symm, List.mem_of_getElem? e⟩
  refine ⟨fun i A' => A' = updA A1 Dl (.prim (.lst (((ys.take i).filter kp).map g))), fun i => match ys[i]? with | some y => kp y | none => false, by simp, fun i A' _ w => by subst w; exact hG _ (Sub.upd (Sub.refl A1) hD), fun i A' hi w => ?_, fun A' w => ?_⟩
  · subst w
    obtain ⟨y, hy, hfy, hmem⟩ := hyi i hi
    have sub : Sub A (updA A1 Dl (.prim (.lst (((ys.take i).filter kp).map g)))) := k.trans (Sub.upd (Sub.refl A1) hD)
    have ek : (match ys[i]? with | some y => kp y | none => false) = kp y := by rw [hy]
    have etk : ys.take (i + 1) = ys.take i ++ [y] := by rw [List.take_succ, hy]; rfl
    have hlen : i < ys.length := (List.getElem?_eq_some_iff.mp hy).1
    simp only [ek, hfy]
    refine ⟨?_, fun hk s H0 C cl fp => ?_, fun hk => ?_⟩
    · have z := ht y hmem
      cases q with
      | no => exact z
      | one c => exact fun s H0 C cl fp => EvT.sub (z s H0 C cl fp) sub
    · refine (he y hmem hk s H0 C cl fp) _ sub _ ⟨_, updA_same, ?_, _, Vw.refl _, ?_⟩
      · have h1 := List.length_filter_le kp (ys.take i)
        rw [List.length_map]
        have h2 : (ys.take i).length ≤ i := by rw [List.length_take]; exact Nat.min_le_left ..
        omega
      · dsimp only
        rw [updA_updA, etk, List.filter_append, List.map_append]
        simp [List.filter_cons, hk]
    · refine ⟨_, Vw.refl _, ?_⟩
      dsimp only
      rw [etk, List.filter_append, List.map_append]
      simp [List.filter_cons, hk]
  · subst w
    have z := qq Dl hD
    rw [List.length_map, List.take_length]
    exact z
/-- a comprehension whose elements change nothing -/
theorem BC.elc {α : Type} {scope : Scope} {own : List (Str × Nat)} {s : Str} {j : Nat} {elt iter : Expr} {pt : Pos} {ys : List α} {en : α → TL.D} (q : Ifs) (kp : α → Bool) (g : α → TL.D) (B : SC X N sc) (ok : blkC N sc scope own = true) (hj : N[j]? = some s) (hl : scope.names.lookup s = some .local) (hv : j ∈ own.map (·.2))
    (hi : EvI X (.Name s pt) iter δ A (ys.map en)) (hz : ys.length ≤ sizeLine) (ht : ∀ y ∈ ys, EvF X scope ((wipeD δ (own.map (·.2))).set j (some (en y))) A (kp y) q)
    (he : ∀ y ∈ ys, kp y = true → ∀ s H0 C cl fp, Ev (Blk X scope s H0 C cl fp) elt ((wipeD δ (own.map (·.2))).set j (some (en y))) A (g y)) (hs : ∀ x, foldedSetIterable iter X.env x = pure x := by intro _; rfl) :
    EvN X (.ListComp elt [⟨.Name s pt, iter, q.list, 0⟩] scope pos) δ A (.lst ((ys.filter kp).map g)) := fun A1 k Q qq => BC.lc q B ok hj hl hv (lc_pure q kp g hi hz ht he k qq) hs
theorem SC.selc {α : Type} {y : Str} {iy : Nat} {py spos : Pos} {scope : Scope} {own : List (Str × Nat)} {s : Str} {j : Nat} {elt iter : Expr} {pt : Pos} {ys : List α} {en : α → TL.D} (q : Ifs) (kp : α → Bool) (g : α → TL.D) (B : SC X N sc) (hk : sc.kind = .function) (hy : N[iy]? = some y) (hyl : sc.names.lookup y = some .local) (hln : (py.line == pos.line) = true) (hna : (scope.names.any fun (n, k) => n == y && (k == .local || k == .cell)) = false) (ok : blkC N sc scope own = true) (hj : N[j]? = some s) (hl : scope.names.lookup s = some .local) (hv : j ∈ own.map (·.2))
    (hi : EvI X (.Name s pt) iter δ A (ys.map en)) (hz : ys.length ≤ sizeLine) (ht : ∀ y ∈ ys, EvF X scope ((wipeD δ (own.map (·.2))).set j (some (en y))) A (kp y) q)
    (he : ∀ y ∈ ys, kp y = true → ∀ s H0 C cl fp, Ev (Blk X scope s H0 C cl fp) elt ((wipeD δ (own.map (·.2))).set j (some (en y))) A (g y)) (qq : ∀ p, A p = none → D.nx (δ.set iy (some (.ref p))) (updA A p (.prim (.lst ((ys.filter kp).map g))))) (hs : ∀ x, foldedSetIterable iter X.env x = pure x := by intro _; rfl) :
    WPS X (.Assign [.Name y py] (.ListComp elt [⟨.Name s pt, iter, q.list, 0⟩] scope pos) spos) δ A D := SC.setLc q B hk hy hyl hln hna ok hj hl hv (lc_pure (Q := fun d A' => D.nx (δ.set iy (some d)) A') q kp g hi hz ht he (Sub.refl A) qq) hs
end TL
/-! The tree layer: what own classes do at len, in, [], iter, list and properties. -/
namespace TL
open PySem PySem.Spec PyProof.Rows
open L2 hiding XE Takes CX MkP PMk ps_raise mk_of ps_try_as ps_try_many pmk_own passAt takes_of passes_call XE.new XE.of_call XE.leave Takes.imp Sky.land
open L2N hiding St
variable {X : Cx} {N : List Str} {sc : Scope} {e a b c o i_ v_ : Expr} {es : List Expr} {st : Stmt} {rest : List Stmt} {δ : Ds} {A : AH} {Q : TQ} {D : TEnds} {d x y z : TL.D} {pos apos p_ : Pos}
variable {k : Nat} {f C p : Addr} {tp : TSp} {ET : TXQ} {pins : List (Addr × Obj)} {σ : St} {H : Hp} {s : Shared} {us : List Value} {vs : List V} {ds : List TL.D}

/-! ### where an instance stands -/
def InsC (K : PySem.W.Frag) (A : AH) (p C : Addr) : Prop := ∀ H, HR K A H → ∃ dx gs, H p = some (.ins C dx gs)
theorem insC_prim {K : PySem.W.Frag} {fs : List (Str × TL.D)} (h : A p = some (.prim (.ins C fs))) : InsC K A p C := fun H hr => by
  obtain ⟨dx, gs, h1, h2⟩ := hr.at_ h
  exact ⟨dx, gs, h1⟩
theorem insC_abs {K : PySem.W.Frag} {R : MH → Prop} (h : A p = some (.abs R)) (l : ∀ mm, R mm → ∃ fs, mm p = some (.ins C fs)) : InsC K A p C := fun H hr => by
  obtain ⟨mm, h1, h2, h3, h4⟩ := hr.open_ h
  obtain ⟨fs, e1⟩ := l mm h1
  exact insC_prim (over_some e1) H h4
theorem ins_at (I : Inv X pins σ H s) (it : InsC X.K A p C) (hr : HR X.K A H) : ∃ ox od, PySem.W.InstAt s.heap p ox C od := by
  obtain ⟨dx, gs, e⟩ := it H hr
  obtain ⟨mA, J, _⟩ := ins_get I.hok e
  obtain ⟨od, J, _⟩ := J.look
  exact ⟨_, _, J⟩
/-- a call at another place of the same frame -/
theorem run_TA {A1 : Around} (F : FnT X.prog X.w X.K X.mg X.base k f tp) (sb : L2.Sub X k A1) (hx : ∀ e s', L2N.CX X.prog X.w X.stack H s (EXT X.K H ET) e s' → X.xe e s') (I : Inv X pins σ H s) (rv : Vals vs us) (rp : Rps X.K H vs ds) (hR : HR X.K A H) (h : tp ds A Q ET) :
    wpAny (model X.prog X.w) A1 (call (.ref f) us) (EP X pins σ (LQ X.K H Q)) X.xe s := by
  have e1 := I.env0
  have e0 : Env0 X.prog X.w X.K X.mg X.base A1 X.stack s H := ⟨sb.fr.trans e1.frames, e1.mod, e1.bs, e1.bsz, e1.funs, e1.frf, e1.hok, e1.bare⟩
  refine wpAny_call (codeAny_mono (F A1 X.stack s H us vs (LQ X.K H Q) (EXT X.K H ET) sb.room e0 rv ⟨ds, A, Q, ET, rp, hR, h, fun _ _ q => q, fun _ _ _ q => q⟩) fun r s' hq => ?_)
  cases r with
  | error e => exact hx e s' hq
  | ok fl =>
    cases fl with
    | ret u => exact I.after hq
    | next => exact False.elim hq
    | brk => exact False.elim hq
    | cont => exact False.elim hq
theorem sub_in0 (hr : Room k X.A) : L2.Sub X k X.A := ⟨hr, rfl⟩
theorem sub_in1 (hr : Room (k + 1) X.A) : L2.Sub X k X.A.in1 := (sub_in0 hr).in1
theorem sub_in2 (hr : Room (k + 2) X.A) : L2.Sub X k X.A.in1.in1 := (sub_in0 hr).in1.in1
theorem sub_in3 (hr : Room (k + 3) X.A) : L2.Sub X k X.A.in1.in1.in1 := (sub_in0 hr).in1.in1.in1

/-! ### len(o) -/
theorem rps_one {K : PySem.W.Frag} {v : V} (h : Rp K H v d) : Rps K H [v] [d] := .cons h .nil
theorem rps_two {K : PySem.W.Frag} {v w : V} (h : Rp K H v d) (h2 : Rp K H w x) : Rps K H [v, w] [d, x] := .cons h (.cons h2 .nil)
theorem vref {v : Value} {q : Addr} (h : RelV (.ref q) v) : v = .ref q := h
theorem caw_lenO (hm : Meth X.K C "__len__" f) (F : FnT X.prog X.w X.K X.mg X.base k f tp) (hr : Room (k + 1) X.A) (it : InsC X.K A p C)
    (h : tp [.ref p] A (fun d A2 => ∃ n : Nat, d = .int n ∧ n < 2 ^ 62 ∧ Q (.int n) A2) NoX) : CaW X (.builtin "len") [.ref p] A Q := by
  refine ⟨fun vs H R => vs = [.ref p] ∧ HR X.K A H ∧ ∀ v H' d A', Kp X.K H H' → Rp X.K H' v d → HR X.K A' H' → Q d A' → R v H', ?_, fun H vs hR rps R hq => ?_⟩
  · intro pins s σ H xs us R I rv ⟨e, hR, hq⟩
    subst e
    obtain rfl := Vals.ref1 rv
    obtain ⟨ox, od, J⟩ := ins_at I it hR
    obtain ⟨m, hF⟩ := I.fr
    refine PySem.W.len_K hF I.ok.mod.kin J hm.at_ hm.fn (thn (run_TA F (sub_in1 hr) (fun e s' q => (noX q).elim) I rv (rps_one .ref) hR h) fun u s1 ⟨v, H1, I1, r1, d, A2, k1, rd, hr2, n, ed, hn, q⟩ => ?_)
    subst ed
    cases rd
    obtain ⟨t, rfl⟩ := r1
    exact ⟨⟨by omega, by omega⟩, .int n, H1, I1.tok _, ⟨_, rfl⟩, hq _ H1 _ A2 k1 .int hr2 q⟩
  · obtain ⟨v, rfl, hv⟩ := rps1 rps
    cases hv
    exact ⟨rfl, hR, hq⟩

/-! ### x in o -/
theorem opw_inO (hm : Meth X.K C "__contains__" f) (F : FnT X.prog X.w X.K X.mg X.base k f tp) (hr : Room k X.A) (hx : PassT X ET) (it : InsC X.K A p C)
    (h : tp [.ref p, x] A (fun d A2 => ∃ n, d = .bl n ∧ Q (.bl n) A2) ET) : OpW X (compareOp .In) x (.ref p) A Q := by
  refine ⟨fun vx vy H R => vy = .ref p ∧ Rp X.K H vx x ∧ HR X.K A H ∧ ∀ v H' d A', Kp X.K H H' → Rp X.K H' v d → HR X.K A' H' → Q d A' → R v H', ?_, fun H vx vy hR r1 r2 R hq => ?_⟩
  · intro pins s σ H vx vy v u R I rx ry ⟨e, rp, hR, hq⟩
    subst e
    obtain rfl := vref ry
    obtain ⟨ox, od, J⟩ := ins_at I it hR
    obtain ⟨m, hF⟩ := I.fr
    refine PySem.W.in_K hF I.ok.mod.kin J hm.at_ hm.fn (thn (run_TA (us := [.ref p, v]) (vs := [.ref p, vx]) F (sub_in0 hr) (fun e s' q => hx pins σ H s e s' I q) I (.cons rfl (.cons rx .nil)) (rps_two .ref rp) hR h) fun u' s1 ⟨w, H1, I1, r1, d, A2, k1, rd, hr2, n, ed, q⟩ => ?_)
    subst ed
    cases rd
    cases r1
    exact wpAny_truthy_bool ⟨.bl n, H1, I1, rfl, hq _ H1 _ A2 k1 .bl hr2 q⟩
  · cases r2
    exact ⟨rfl, r1, hR, hq⟩
theorem opw_ninO (hm : Meth X.K C "__contains__" f) (F : FnT X.prog X.w X.K X.mg X.base k f tp) (hr : Room k X.A) (hx : PassT X ET) (it : InsC X.K A p C)
    (h : tp [.ref p, x] A (fun d A2 => ∃ n, d = .bl n ∧ Q (.bl (!n)) A2) ET) : OpW X (compareOp .NotIn) x (.ref p) A Q := by
  refine ⟨fun vx vy H R => vy = .ref p ∧ Rp X.K H vx x ∧ HR X.K A H ∧ ∀ v H' d A', Kp X.K H H' → Rp X.K H' v d → HR X.K A' H' → Q d A' → R v H', ?_, fun H vx vy hR r1 r2 R hq => ?_⟩
  · intro pins s σ H vx vy v u R I rx ry ⟨e, rp, hR, hq⟩
    subst e
    obtain rfl := vref ry
    obtain ⟨ox, od, J⟩ := ins_at I it hR
    obtain ⟨m, hF⟩ := I.fr
    refine PySem.W.notIn_K hF I.ok.mod.kin J hm.at_ hm.fn (thn (run_TA (us := [.ref p, v]) (vs := [.ref p, vx]) F (sub_in0 hr) (fun e s' q => hx pins σ H s e s' I q) I (.cons rfl (.cons rx .nil)) (rps_two .ref rp) hR h) fun u' s1 ⟨w, H1, I1, r1, d, A2, k1, rd, hr2, n, ed, q⟩ => ?_)
    subst ed
    cases rd
    cases r1
    exact wpAny_truthy_bool ⟨.bl (!n), H1, I1, rfl, hq _ H1 _ A2 k1 .bl hr2 q⟩
  · cases r2
    exact ⟨rfl, r1, hR, hq⟩

/-! ### o[i], o[i] = v -/
theorem wpe_subO (hm : Meth X.K C "__getitem__" f) (hfn : PySem.W.fnIn X.K f = true) (F : FnT X.prog X.w X.K X.mg X.base k f tp) (hr : Room (k + 1) X.A) (hx : PassD X δ ET)
    (h : WPE X o δ A fun d A1 => WPE X i_ δ A1 fun y A2 => ∃ p, d = .ref p ∧ InsC X.K A2 p C ∧ tp [.ref p, y] A2 Q ET)
    (hsl : ∀ q i, subscripted i_ true (.ref q) i = runValue (.builtin "lifetime.subscript" ⟨[.ref q, i], []⟩) := by intro _ _; with_unfolding_all rfl) : WPE X (.Subscript o i_ pos) δ A Q := fun σ H sl r pins s I => by
  refine Subscript_ (thn (wpe_two h sl r pins s I) fun u s1 ⟨v, H1, I1, rv, q⟩ => thn (q pins s1 I1) fun u2 s2 ⟨v2, H2, I2, rv2, d, y, A2, k2, rd, ry, hr2, p, ed, it, ht⟩ => ?_)
  subst ed
  cases rd
  obtain rfl := vref rv
  obtain ⟨ox, od, J⟩ := ins_at I2 it hr2
  obtain ⟨m, hF⟩ := I2.fr
  refine PySem.W.sub_K hF I2.ok.mod.kin J hm.at_ hfn hm.fn (thn (run_TA (us := [.ref p, u2]) (vs := [.ref p, v2]) F (sub_in1 hr) (fun e s' q => hx pins σ H2 s2 e s' I2 (sl.keep k2) q) I2 (.cons rfl (.cons rv2 .nil)) (rps_two .ref ry) hr2 ht) fun u' s3 q3 => ?_) (hsl p u2)
  exact EP.from k2 q3
theorem wps_putO {pos' : Pos} (hm : Meth X.K C "__setitem__" f) (hq : PySem.W.noSeq X.K C = true) (F : FnT X.prog X.w X.K X.mg X.base k f tp) (hr : Room k X.A) (hx : PassD X δ ET)
    (h : WPE X v_ δ A fun w A0 => WPE X o δ A0 fun d A1 => WPE X i_ δ A1 fun y A2 => ∃ p, d = .ref p ∧ InsC X.K A2 p C ∧ tp [.ref p, y, w] A2 (fun _ A3 => D.nx δ A3) ET)
    (ha : ∀ v, assign (.Subscript o i_ pos') X.env v = (do
      let ov ← holding [v] (eval o X.env)
      let iv ← holding [v, ov] (eval i_ X.env)
      standAt pos'
      holding [v, ov, iv] (setItem ov iv v)
      release [v, ov, iv] []) := by intro _; rfl)
    (hs : swapsWithSole [.Subscript o i_ pos'] v_ pos.line X.env = pure false := by rfl) (hw : swappedStores [.Subscript o i_ pos'] v_ X.env = pure none := by rfl)
    (h1 : (assignEach [.Subscript o i_ pos'] X.env).map (·.2) = [assign (.Subscript o i_ pos') X.env] := by rfl) : WPS X (.Assign [.Subscript o i_ pos'] v_ pos) δ A D := fun σ H sl r => by
  have pgO : PG X (.Subscript o i_ pos') (fun vw σ' H' R => ∃ w A0, Sl X.K H' σ' δ ∧ Rp X.K H' vw w ∧ HR X.K A0 H' ∧ (WPE X o δ A0 fun d A1 => WPE X i_ δ A1 fun y A2 => ∃ p, d = .ref p ∧ InsC X.K A2 p C ∧ tp [.ref p, y, w] A2 (fun _ A3 => D.nx δ A3) ET) ∧ ∀ H2 A3, Kp X.K H' H2 → HR X.K A3 H2 → D.nx δ A3 → R σ' H2) := by
    refine ⟨fun pins s σ' H' vw u R I rw ⟨w, A0, sl', pw, hR, hw', hk⟩ => ?_⟩
    rw [ha]
    refine wpAny_bind (wpAny_holding (thn (wpe_two hw' sl' hR pins s I) fun ov s1 ⟨vd, H1, I1, r1, q1⟩ => ?_))
    refine wpAny_bind (wpAny_holding (thn (q1 pins s1 I1) fun iv s2 ⟨vy, H2, I2, r2, d, y, A2, k2, rd, ry, hr2, p, ed, it, ht⟩ => ?_))
    subst ed
    cases rd
    obtain rfl := vref r1
    obtain ⟨ox, od, J⟩ := ins_at I2 it hr2
    obtain ⟨m, hF⟩ := I2.fr
    refine wpAny_bind (wpAny_standAt (wpAny_bind (wpAny_holding (PySem.W.ksp_setItem hF I2.ok.mod.kin J hq hm.at_ hm.fn (thn (run_TA (us := [.ref p, iv, u]) (vs := [.ref p, vy, vw]) F (sub_in0 hr) (fun e s' q => hx pins σ' H2 s2 e s' I2 (sl'.keep k2) q) I2 (.cons rfl (.cons r2 (.cons rw .nil))) (.cons .ref (rps_two ry (pw.keep k2))) hr2 ht) fun u' s3 ⟨v1, H3, I3, _, d, A3, k3, _, hr3, q⟩ => ?_)))))
    exact wpAny_release ⟨σ', H3, I3, hk H3 A3 (k2.trans k3) hr3 q⟩
  refine runS.of (ps_asg pe_run pgO hs hw h1) (runE.mono (h σ H sl r) fun vw H1 ⟨w, A1, k1, rw, hr1, q⟩ => ⟨w, A1, sl.keep k1, rw, hr1, q, fun H2 A3 k2 hr3 q3 => ⟨δ, A3, k1.trans k2, sl.keep (k1.trans k2), hr3, q3⟩⟩)
end TL
/-! The tree layer: own iterators over a list of the instance, list(o), properties, class constants. -/
namespace TL
open PySem PySem.Spec PyProof.Rows
open L2 hiding XE Takes CX MkP PMk ps_raise mk_of ps_try_as ps_try_many pmk_own passAt takes_of passes_call XE.new XE.of_call XE.leave Takes.imp Sky.land
open L2N hiding St
variable {X : Cx} {N : List Str} {sc : Scope} {e a b c o i_ v_ : Expr} {es : List Expr} {st : Stmt} {rest : List Stmt} {δ : Ds} {A : AH} {Q : TQ} {D : TEnds} {d x y z : TL.D} {pos apos p_ : Pos}
variable {k : Nat} {f C p : Addr} {tp : TSp} {ET : TXQ} {pins : List (Addr × Obj)} {σ : St} {H : Hp} {s : Shared} {us : List Value} {vs : List V} {ds : List TL.D}

/-- what a list at l holds, one that is seen or one within an abstract object -/
def RdO (A : AH) (l : Addr) (xs : List TL.D) : Prop := A l = some (.prim (.lst xs)) ∨ ∃ q R, A q = some (.abs R) ∧ ∀ m : MH, R m → m l = some (.lst xs)
theorem RdO.at_ {K : PySem.W.Frag} {l : Addr} {xs : List TL.D} (h : RdO A l xs) (hr : HR K A H) : ∃ vs, H l = some (.lst vs) ∧ Rps K H vs xs := by
  rcases h with h | ⟨q, R, h, hl⟩
  · exact hr.at_ h
  · obtain ⟨m, h1, _, _, h4⟩ := hr.open_ h
    exact h4.at_ (over_some (hl m h1))
theorem RdO.sub {A' : AH} {l : Addr} {xs : List TL.D} (h : RdO A l xs) (k : TL.Sub A A') : RdO A' l xs := by
  rcases h with h | ⟨q, R, h, hl⟩
  · exact .inl (k _ _ h)
  · exact .inr ⟨q, R, k _ _ h, hl⟩
/-- the attribute fld of the instance at p is the object at l -/
def FldO (K : PySem.W.Frag) (A : AH) (p C : Addr) (fld : Str) (l : Addr) : Prop := ∀ H, HR K A H → ∃ dx gs, H p = some (.ins C dx gs) ∧ gs.lookup fld = some (.ref l)
theorem fldO_prim {K : PySem.W.Frag} {fld : Str} {l : Addr} {fs : List (Str × TL.D)} (h : A p = some (.prim (.ins C fs))) (hl : fs.lookup fld = some (.ref l)) : FldO K A p C fld l := fun H hr => by
  obtain ⟨dx, gs, h1, h2⟩ := hr.at_ h
  obtain ⟨v, e, r⟩ := kvr_some h2 hl
  cases r
  exact ⟨dx, gs, h1, e⟩
theorem fldO_abs {K : PySem.W.Frag} {fld : Str} {l : Addr} {R : MH → Prop} (h : A p = some (.abs R)) (hl : ∀ m : MH, R m → ∃ fs, m p = some (.ins C fs) ∧ fs.lookup fld = some (.ref l)) : FldO K A p C fld l := fun H hr => by
  obtain ⟨mm, h1, h2, h3, h4⟩ := hr.open_ h
  obtain ⟨fs, e1, e2⟩ := hl mm h1
  exact fldO_prim (over_some e1) e2 H h4
theorem FldO.sub {K : PySem.W.Frag} {A' : AH} {fld : Str} {l : Addr} (h : FldO K A p C fld l) (k : TL.Sub A A') : FldO K A' p C fld l := fun H hr => h H (hr.sub k)
theorem InsC.sub {K : PySem.W.Frag} {A' : AH} (h : InsC K A p C) (k : TL.Sub A A') : InsC K A' p C := fun H hr => h H (hr.sub k)

/-! ### __iter__: return iter(self.fld) -/
def ItFn (P : Program) (w : World) (K : PySem.W.Frag) (mg : Str → Option Value) (base : Heap) (k : Nat) (f C : Addr) (fld : Str) : Prop :=
  ∀ (A : Around) (outer : List Env) (s : Shared) (H : Hp) (a dx l : Addr) (gs : List (Str × V)) (zs : List V), Room k A → Env0 P w K mg base A outer s H → H a = some (.ins C dx gs) → gs.lookup fld = some (.ref l) → H l = some (.lst zs) →
    codeAny (model P w) A (.call (.ref f) ⟨[.ref a], []⟩) (CR (L2N.CX P w) outer P w H s (fun v H' => ∃ it, v = .ref it ∧ H it = none ∧ s.heap.objs.size ≤ it ∧ H' = upd H it (ItO l it 0)) fun _ _ _ => False) s
theorem ItFn.mono {P : Program} {w : World} {K : PySem.W.Frag} {mg : Str → Option Value} {base : Heap} {j : Nat} {fld : Str} (F : ItFn P w K mg base j f C fld) (h : j ≤ k) : ItFn P w K mg base k f C fld :=
  fun A outer s H a dx l gs zs hr => F A outer s H a dx l gs zs (hr.mono h)
def rItN (X : Cx) : List V → Hp → VK → Prop := fun xs H Q => ∃ (l : Addr) (zs : List V), xs = [.ref l] ∧ SqL X.K H l zs ∧ ∀ it, H it = none → X.s_0.heap.objs.size ≤ it → Q (.ref it) (upd H it (ItO l it 0))
theorem cr_itN : CallR X (.builtin "iter") (rItN X) := fun pins s σ H xs us Q I r ⟨l, zs, e, hq, q⟩ => by
  subst e
  obtain rfl := Vals.ref1 r
  obtain ⟨its, rv, pl, hz⟩ := I.list hq
  exact GNX.call_iter pl.isList ⟨.ref s.heap.objs.size, _, I.laid (t' := s.toks) (fun b u e => Heap.get?_push_of_some _ e) (Nat.le_refl _) (itO_ok (Heap.get?_push_size _ rfl)), rfl, q _ (I.hok.fresh (Nat.le_refl _)) I.sz⟩
section
variable {P : Program} {w : World} {K : PySem.W.Frag} {mg : Str → Option Value} {base : Heap} {name qual fld : Str} {params : Arguments} {body : List Stmt} {scope : Scope} {fd : FuncData} {p1 p2 p3 p4 p5 : Pos}
theorem fn_it (Fd : FunD K name qual params body scope [] [] f fd) (S : FnScope N ["self"] scope) (hb : Binds K fd ["self"] []) (hbody : body = [.Return (some (.Call (.Name "iter" p1) [.Attribute (.Name "self" p2) fld p3] [] p4)) p5])
    (hN : N[0]? = some ("self" : Str)) (hg : scope.names.lookup ("iter" : Str) = some .globalImplicit) (hm : mg "iter" = none) (c : Cls K C) (n : NoAttr K C fld) : ItFn P w K mg base (k + 1) f C fld := by
  obtain ⟨oc, od, dV, kV, doc, pm, an, cdv, ct, osl, rfl, lk, hcd, _, _⟩ := Fd.ex
  intro A outer s H q dx l gs zs hr e0 ha hl hz
  have KX : K.In s.heap := e0.mod.kin.keeps fun b o e => (e0.bs b o e).1
  have lim : s.heap.NoLimit := e0.mod.nolimit.keeps fun b o e => (e0.bs b o e).1
  have kinds : ∀ y ∈ (["self"] : List Str).zip [Value.ref q], scope.names.lookup y.1 = some .local ∨ (scope.names.lookup y.1 = some .cell ∧ ((cellsFrom (s.heap.objs.size + 1) scope.names []).lookup y.1).isSome = true) := fun y hy => by
    rcases S.par y.1 (List.of_mem_zip hy).1 with z | z
    · exact .inl z
    · exact .inr ⟨z, PySem.W.cellsFrom_some _ _ _ (.inl z)⟩
  have bd := hb s [.ref q] KX rfl
  refine codeAny_call_function hr.depth (KX _ _ lk) rfl S.co S.gen rfl (PySem.W.codeRec_of KX hcd) (bd _ _ _ _ ?_)
  refine wpAny_newFunctionEnv_cells S.kind kinds fun env he s1 xx => ?_
  subst he
  refine ⟨lim.keeps xx.toInCall.keep, codeAny_func ?_⟩
  have r1 : Vals [V.ref q] [Value.ref q] := .cons rfl .nil
  have I : Inv (cxOf (L2N.CX P w) P w K mg base N qual scope f cdv A outer s H fun _ _ _ => False) [] (L2.start N [.ref q]) H s1 := inv_start S hr.hd e0 rfl r1 xx
  subst hbody
  have vis : Vis scope "self" := (S.par "self" (List.Mem.head _)).elim (fun z => .inl z) fun z => .inr (.inl z)
  have gl : Gl (cxOf (L2N.CX P w) P w K mg base N qual scope f cdv A outer s H fun _ _ _ => False) "iter" := hg
  have pv : PE (cxOf (L2N.CX P w) P w K mg base N qual scope f cdv A outer s H fun _ _ _ => False) (.Name "self" p2) (tVar 0) := pe_var hN vis
  have pf : PE (cxOf (L2N.CX P w) P w K mg base N qual scope f cdv A outer s H fun _ _ _ => False) (.Attribute (.Name "self" p2) fld p3) (tFld K (tVar 0) fld) := pe_fld pv rfl
  have pa : PA (cxOf (L2N.CX P w) P w K mg base N qual scope f cdv A outer s H fun _ _ _ => False) [.Attribute (.Name "self" p2) fld p3] (tCons (tFld K (tVar 0) fld) tNil) := pa_cons pf pa_nil
  have pc : PE (cxOf (L2N.CX P w) P w K mg base N qual scope f cdv A outer s H fun _ _ _ => False) (.Call (.Name "iter" p1) [.Attribute (.Name "self" p2) fld p3] [] p4) _ := pe_callB cr_itN gl hm (by rfl) pa
  have body := pss_one (ps_ret (pos := p5) pc)
  refine wpAny_mono (body.run [] s1 (L2.start N [.ref q]) H { nx := fun _ _ => False, rt := fun v H' => ∃ it, v = .ref it ∧ H it = none ∧ s.heap.objs.size ≤ it ∧ H' = upd H it (ItO l it 0) } I ?_) (fun fl s' hs => ?_) fun e s' hs => hs
  · exact ⟨.ref q, rfl, q, C, dx, gs, .ref l, rfl, ha, c, n, hl, l, zs, rfl, .of hz, fun it hn hs => ⟨it, rfl, hn, hs, rfl⟩⟩
  · cases fl with
    | ret u =>
      obtain ⟨v, σ', H', J, rv, q⟩ := hs
      exact ⟨v, H', J.os, J.bare, J.base, J.hok, rv, q⟩
    | next => obtain ⟨_, _, _, q⟩ := hs; exact q.elim
    | brk => obtain ⟨_, _, _, q⟩ := hs; exact q.elim
    | cont => obtain ⟨_, _, _, q⟩ := hs; exact q.elim
end
/-- the iterator that has come is tracked by nobody -/
theorem run_it {A1 : Around} {fld : Str} {dx l : Addr} {gs : List (Str × V)} {zs : List V} {Q : Value → Shared → Prop} (F : ItFn X.prog X.w X.K X.mg X.base k f C fld) (sb : L2.Sub X k A1) (I : Inv X pins σ H s) (ha : H p = some (.ins C dx gs)) (hl : gs.lookup fld = some (.ref l)) (hz : H l = some (.lst zs))
    (q : ∀ it s', Inv X pins σ H s' → s'.heap.IsListIter it l 0 → FpOk X pins H it → Q (.ref it) s') : wpAny (model X.prog X.w) A1 (call (.ref f) [.ref p]) Q X.xe s := by
  have e1 := I.env0
  have e0 : Env0 X.prog X.w X.K X.mg X.base A1 X.stack s H := ⟨sb.fr.trans e1.frames, e1.mod, e1.bs, e1.bsz, e1.funs, e1.frf, e1.hok, e1.bare⟩
  refine wpAny_call (codeAny_mono (F A1 X.stack s H p dx l gs zs sb.room e0 ha hl hz) fun r s' hq => ?_)
  cases r with
  | error e =>
    obtain ⟨_, _, _, _, _, _, _, _, _, _, _, _, z⟩ := hq
    exact z.elim
  | ok fl =>
    cases fl with
    | ret u =>
      obtain ⟨v, H', os, bare, un, hok, rv, it, ev, hn, hs, eH⟩ := hq
      subst ev eH
      obtain rfl := vref rv
      obtain ⟨hh, g, dd, t, os'⟩ := s'
      obtain rfl : os' = s.os := os
      have un' : Un (frs X.stack) [] H H s.heap hh := ⟨un.keep, un.slot, fun _ _ _ n _ => n, un.there, fun _ _ e => e, fun _ _ _ e => e, fun b ps e => ⟨#[], by rw [e]; simp⟩⟩
      have own : ∀ b a, upd H it (ItO l it 0) b = some (.own a) → H b = some (.own a) := fun b a e => by
        by_cases z : b = it
        · subst z; rw [upd_same] at e; cases e
        · rw [upd_ne z] at e; exact e
      have tups : ∀ b xs, upd H it (ItO l it 0) b = some (.tup xs) → H b = some (.tup xs) := fun b a e => by
        by_cases z : b = it
        · subst z; rw [upd_same] at e; cases e
        · rw [upd_ne z] at e; exact e
      have hok' : HOk X.prog X.w H hh := fun b u e => (hok b u (by rw [upd_ne (ne_of_none e hn)]; exact e)).stay (fun _ _ _ q => q) (fun b => own b _) tups
      have hit : hh.get? it = some (GNX.itObj l 0) := (hok it _ upd_same).1
      exact q it _ (I.call (h' := hh) (g' := g) (d' := dd) (t' := t) (ch := []) un' hok' bare (fun b z => absurd z (by simp))) ⟨_, hit, rfl, rfl⟩ (I.fpOk hs hn)
    | next => exact False.elim hq
    | brk => exact False.elim hq
    | cont => exact False.elim hq
/-- an own object is walked -/
theorem wpi_own {tg : Expr} {fld : Str} {R : RW} (hm : Meth X.K C "__iter__" f) (F : ItFn X.prog X.w X.K X.mg X.base k f C fld) (hr : Room k X.A)
    (h : WPE X e δ A fun d A1 => ∃ p l xs, d = .ref p ∧ FldO X.K A1 p C fld l ∧ RdO A1 l xs ∧ R xs.length (fun i => xs.getD i .non) (fun A' => RdO A' l xs) A1) : WPI X tg e δ A R := fun σ H sl r R0 kk pins s I => by
  refine thn (h σ H sl r pins s I) fun u s1 ⟨v, H1, I1, rv, d, A1, k1, rp, hr1, p, l, xs, e1, hf, ho, q⟩ => ?_
  subst e1
  cases rp
  obtain rfl := vref rv
  obtain ⟨dx, gs, e2, e3⟩ := hf H1 hr1
  obtain ⟨zs, e4, r4⟩ := ho.at_ hr1
  obtain ⟨mA, J, _⟩ := ins_get I1.hok e2
  obtain ⟨od, J, _⟩ := J.look
  obtain ⟨m, hF⟩ := I1.fr
  refine PySem.W.owit_iter hF I1.ok.mod.kin J hm.at_ hm.fn (run_it F (sub_in0 hr) I1 e2 e3 e4 fun it s' I' hit hfp => ?_)
  unfold PySem.W.OwitIt
  refine wpAny_specialOf hit.typeIs slot_listiter_next.lookup ?_
  refine ⟨it, [it], fun i h => h.IsListIter it l i, Itl X.K l, H1, rfl, I', turn_list l it, hit, fun b hb => ?_, kk _ H1 xs.length _ _ A1 _ k1 hr1 walk_lstT (fun A' H' _ hr' hp' => ?_) q⟩
  · obtain rfl : b = it := by simpa using hb
    exact hfp
  · obtain ⟨ws, hw, rw'⟩ := RdO.at_ hp' hr'
    exact ⟨ws, .of hw, rw'⟩
end TL
/-! The tree layer: list(o), properties, class constants, range with a step, texts times ints, chains, name = [..]. -/
namespace TL
open PySem PySem.Spec PyProof.Rows L2
variable {X : Cx} {N : List Str} {sc : Scope} {e a b c o i_ v_ : Expr} {es : List Expr} {st : Stmt} {rest : List Stmt} {δ : Ds} {A : AH} {Q : TQ} {D : TEnds} {d x y z : TL.D} {pos apos p_ : Pos}
variable {k : Nat} {f C p : Addr} {tp : TSp} {ET : TXQ} {pins : List (Addr × Obj)} {σ : St} {H : Hp} {s : Shared} {us : List Value} {vs : List V} {ds : List TL.D}

/-! ### list(o) -/
theorem take_snoc {α : Type} {xs : List α} {i : Nat} {v : α} (h : xs[i]? = some v) : xs.take (i + 1) = xs.take i ++ [v] := by rw [List.take_succ, h]; rfl
/-- what the end of a list's iterator asks for -/
def ListEnd (X : Cx) (A1 : Around) : Prop := ∀ {it l : Addr} {i : Nat} {items : Array Value} {pins : List (Addr × Obj)} {σ : St} {H : Hp} {s : Shared} {Q : Option Value → Shared → Prop} {E : Value → Shared → Prop}, Inv X pins σ H s → s.heap.IsListIter it l i → s.heap.IsList l items → items[i]? = none → (∀ h', (∀ b o, b ≠ it → s.heap.get? b = some o → h'.get? b = some o) → Q none { s with heap := h' }) → wpAny (model X.prog X.w) A1 (pyNext (.ref it)) Q E s
theorem listEnd_calm {A1 : Around} (hd : A1.handled = none) : ListEnd X A1 := fun _ hit hl hx q => wpAny_pyNext_list_end hd hit hl hx q
theorem ext_loop {A1 : Around} {l q it : Addr} {zs : List V} {Rs : Result → Shared → Prop} (hd : ListEnd X A1.in1) (hz : zs.length ≤ sizeLine) (hlq : l ≠ q) (hiq : it ≠ q) :
    ∀ (n i : Nat) (H : Hp) (s : Shared), zs.length - i = n → i ≤ zs.length → Inv X pins σ H s → s.heap.IsListIter it l i → FpOk X pins H it → H l = some (.lst zs) → H q = some (.lst (zs.take i)) →
      (∀ s', Inv X pins σ (upd H q (.lst zs)) s' → Rs (.ok (.ret .none)) s') → codeAny (model X.prog X.w) A1 (.builtin "list.extend.loop" ⟨[.ref q, .ref it, .none], []⟩) Rs s
  | 0, i, H, s, hn, hi, I, hit, fp, hl, hq, done => by
    have ei : i = zs.length := by omega
    subst ei
    obtain ⟨f0, f1, f2, f3, f4, f5⟩ := fp
    obtain ⟨zl, its, n', r, len, e⟩ := I.lstM hl
    refine codeAny_builtin PySem.F.entry_extend_loop ?_
    rw [Around.under_plainId PySem.F.plain_extend_loop _]
    show wpAny _ A1.in1 (pyNext (.ref it) >>= _) _ _ s
    refine wpAny_bind (hd (l := l) (items := its.toArray) I hit ⟨_, e, rfl, _, rfl⟩ (by simp [len]) fun h' eb => wpAny_pure (done _ ?_))
    have I2 : Inv X pins σ H { s with heap := h' } := I.turned (t' := s.toks) (fun b o hb z => eb b o hb z) f0 f1 f3 f4 f5
    have eH : upd H q (.lst zs) = H := by
      funext b
      by_cases hb : b = q
      · rw [hb, upd_same, hq, List.take_length]
      · rw [upd_ne hb]
    rw [eH]; exact I2
  | n + 1, i, H, s, hn, hi, I, hit, fp, hl, hq, done => by
    have hlt : i < zs.length := by omega
    have hv : zs[i]? = some (zs[i]'hlt) := List.getElem?_eq_getElem hlt
    obtain ⟨f0, f1, f2, f3, f4, f5⟩ := id fp
    obtain ⟨zl, its, n', r, len, e⟩ := I.lstM hl
    obtain ⟨u, hu, ru⟩ := r.get hv
    refine codeAny_builtin PySem.F.entry_extend_loop ?_
    rw [Around.under_plainId PySem.F.plain_extend_loop _]
    show wpAny _ A1.in1 (pyNext (.ref it) >>= _) _ _ s
    refine wpAny_bind (wpAny_pyNext_list_item (l := l) (items := its.toArray) hit ⟨_, e, rfl, _, rfl⟩ (x := u) (by simpa using hu) fun h' hit' sb => ?_)
    have I2 : Inv X pins σ H { s with heap := h' } := I.turned (t' := s.toks) (fun b o hb z => (sb.2 b hb).trans z) f0 f1 f3 f4 f5
    obtain ⟨zq, itq, nq, rq, lenq, eq⟩ := I2.lstM hq
    have lt : (zs.take i).length = i := by rw [List.length_take]; omega
    show wpAny _ A1.in1 (updateSeq q (·.push u) >>= _) _ _ _
    refine wpAny_bind (wpAny_updateSeq eq rfl (wpAny_pure ⟨plainId_quiet PySem.F.plain_extend_loop _, ?_⟩) (by rw [List.size_toArray]; omega) (by show (itq.toArray.push u).size ≤ sizeLine + 1; rw [Array.size_push, List.size_toArray]; omega))
    have I3 := I2.lset (f := (·.push u)) (its' := itq ++ [u]) (t' := s.toks) hq eq (by simp) (rq.append (.cons ru .nil)) (by rw [List.length_append, List.length_singleton]; omega)
    refine ext_loop hd hz hlq hiq n (i + 1) _ _ (by omega) hlt I3 ?_ ⟨by rw [upd_ne hiq]; exact f0, f1, f2, f3, f4, f5⟩ (by rw [upd_ne hlq]; exact hl) (by rw [upd_same, take_snoc hv]) fun s' I' => done s' (by rw [upd_upd] at I'; exact I')
    obtain ⟨oi, e1, e2, e3⟩ := hit'
    exact ⟨oi, (Heap.get?_update_other _ _ (fun z => hiq z.symm)).trans e1, e2, e3⟩
theorem touch_ok {A1 : Around} {q : Addr} {Q : Unit → Shared → Prop} {E : Value → Shared → Prop} (I : Inv X pins σ H s) (hq : H q = some (.lst [])) (h : ∀ s', Inv X pins σ H s' → Q () s') : wpAny (model X.prog X.w) A1 (Builtin.List.listTouch (.ref q)) Q E s := by
  obtain ⟨z1, it1, n1, r1, l1, e1⟩ := I.lstM hq
  cases r1
  show wpAny _ _ (updateSeq q (·.push .none) >>= fun _ => updateSeq q (·.pop)) _ _ _
  refine wpAny_bind (wpAny_updateSeq e1 rfl ?_)
  have I2 := I.lset (f := (·.push Value.none)) (its' := [Value.none]) (ys := [.non]) (t' := s.toks) hq e1 (by simp) (.cons rfl .nil) (by rw [List.length_singleton, sizeLine_eq]; decide)
  obtain ⟨z4, it4, n4, r4, l4, e4⟩ := I2.lstM upd_same
  obtain ⟨u4, rfl, ru4⟩ := r4.one
  refine wpAny_updateSeq e4 rfl ?_ (by show 1 ≤ sizeLine; rw [sizeLine_eq]; decide) (by show 0 ≤ sizeLine + 1; exact Nat.zero_le _)
  have I3 := I2.lset (f := (·.pop)) (its := [u4]) (its' := []) (ys := []) (t' := s.toks) upd_same e4 (by rfl) .nil (Nat.zero_le _)
  rw [upd_upd] at I3
  have eH : upd H q (.lst []) = H := by
    funext b
    by_cases hb : b = q
    · rw [hb, upd_same, hq]
    · rw [upd_ne hb]
  rw [eH] at I3
  exact h _ I3
/-- a call that raises nothing -/
theorem run_T0 {A1 : Around} {E' : Value → Shared → Prop} (F : FnT X.prog X.w X.K X.mg X.base k f tp) (sb : L2.Sub X k A1) (I : Inv X pins σ H s) (rv : Vals vs us) (rp : Rps X.K H vs ds) (hR : HR X.K A H) (h : tp ds A Q NoX) :
    wpAny (model X.prog X.w) A1 (call (.ref f) us) (EP X pins σ (LQ X.K H Q)) E' s := by
  have e1 := I.env0
  have e0 : Env0 X.prog X.w X.K X.mg X.base A1 X.stack s H := ⟨sb.fr.trans e1.frames, e1.mod, e1.bs, e1.bsz, e1.funs, e1.frf, e1.hok, e1.bare⟩
  refine wpAny_call (codeAny_mono (F A1 X.stack s H us vs (LQ X.K H Q) (EXT X.K H NoX) sb.room e0 rv ⟨ds, A, Q, NoX, rp, hR, h, fun _ _ q => q, fun _ _ _ q => q⟩) fun r s' hq => ?_)
  cases r with
  | error e =>
    exact (noX hq).elim
  | ok fl =>
    cases fl with
    | ret u => exact I.after hq
    | next => exact False.elim hq
    | brk => exact False.elim hq
    | cont => exact False.elim hq
/-- how long o says that it is, for list(o): len(o), or nothing -/
def HintT (X : Cx) (A : AH) (p C q l : Addr) (xs : List TL.D) (Q : TQ) : Prop := ∀ (A1 : Around) (pins : List (Addr × Obj)) (σ : St) (H : Hp) (s : Shared) (QQ : Bool → Shared → Prop), A1.frames = X.A.frames → A1.units = X.A.units + 2 → A1.depth = X.A.depth → A1.handled = X.A.handled → Inv X pins σ H s → HR X.K A H →
  (∀ n s' H' A2, Inv X pins σ H' s' → Kp X.K H H' → HR X.K A2 H' → A2 q = some (.prim (.lst [])) → RdO A2 l xs → Q (.ref q) (updA A2 q (.prim (.lst xs))) → QQ n s') → wpAny (model X.prog X.w) A1 (Builtin.List.listLengthHint (.ref p)) QQ X.xe s
theorem hint_len {q l : Addr} {xs : List TL.D} (hm : Meth X.K C "__len__" f) (F : FnT X.prog X.w X.K X.mg X.base k f tp) (hr : Room (k + 4) X.A) (it : InsC X.K A p C)
    (h : tp [.ref p] A (fun d A2 => ∃ n : Nat, d = .int n ∧ n ≤ sizeLine ∧ A2 q = some (.prim (.lst [])) ∧ RdO A2 l xs ∧ Q (.ref q) (updA A2 q (.prim (.lst xs)))) NoX) : HintT X A p C q l xs Q := by
  intro A1 pins σ H s QQ hf hu hdp hh I hR hQ
  obtain ⟨ox, od, J⟩ := ins_at I it hR
  obtain ⟨m, hF⟩ := I.fr
  have sb : L2.Sub X k A1.in1 := ⟨⟨hh.trans hr.hd, by have := hr.dp; show A1.depth + 3 * k + 5 < _; omega, by have := hr.un; show A1.units + 1 + 16 * k + 200 < _; omega⟩, hf⟩
  unfold Builtin.List.listLengthHint
  refine wpAny_bind (wpAny_bind (J.type.here ((PySem.W.looks_findIn I.kIn hm.at_).here ?_)))
  refine PySem.W.KFB.if_not rfl ?_
  refine wpAny_bind (wpAny_rule (wpAny_bind (wpAny_attempt (PySem.W.len_K hF I.ok.mod.kin J hm.at_ hm.fn (thn (run_T0 (us := [.ref p]) (vs := [.ref p]) F sb I (.cons rfl .nil) (rps_one .ref) hR h) fun u s1 ⟨v, H1, I1, r1, d, A2, k1, rd, hr2, n, ed, hn, hq, ho, q⟩ => ?_)))))
  subst ed
  cases rd
  obtain ⟨t, rfl⟩ := r1
  refine ⟨⟨by omega, by have := sizeLine_eq; omega⟩, ?_⟩
  have nl : Builtin.List.listTooLong ((n : Int).toNat) = false := notLongL (by simpa using hn)
  show wpAny _ _ (if Builtin.List.listTooLong ((n : Int).toNat) = true then _ else _) _ _ _
  rw [nl]
  exact wpAny_pure (hQ _ _ H1 A2 (I1.tok _) k1 hr2 hq ho q)
theorem hint_no {q l : Addr} {xs : List TL.D} (h1 : PySem.W.findIn X.K (.ref C) "__len__" = some none) (h2 : PySem.W.findIn X.K (.ref C) "__length_hint__" = some none) (it : InsC X.K A p C) (hq : A q = some (.prim (.lst []))) (ho : RdO A l xs)
    (h : Q (.ref q) (updA A q (.prim (.lst xs)))) : HintT X A p C q l xs Q := by
  intro A1 pins σ H s QQ hf hu hdp hh I hR hQ
  obtain ⟨ox, od, J⟩ := ins_at I it hR
  unfold Builtin.List.listLengthHint
  refine wpAny_bind (wpAny_bind (J.type.here ((PySem.W.looks_findIn I.kIn h1).here ?_)))
  refine PySem.W.KFB.if_not rfl ?_
  refine PySem.W.KFB.if_not rfl ?_
  refine wpAny_bind (wpAny_bind (J.type.here ((PySem.W.looks_findIn I.kIn h2).here ?_)))
  exact wpAny_pure (hQ true s H A I (Kp.refl H) hR hq ho h)
/-- what calling o.__iter__ gives -/
def IterRun (X : Cx) (A1 : Around) (p fi C : Addr) (fld : Str) (l : Addr) : Prop := ∀ (pins : List (Addr × Obj)) (σ : St) (H : Hp) (s : Shared) (dx : Addr) (gs : List (Str × V)) (zs : List V) (Q : Value → Shared → Prop), Inv X pins σ H s → H p = some (.ins C dx gs) → gs.lookup fld = some (.ref l) → H l = some (.lst zs) → (∀ it s', Inv X pins σ H s' → s'.heap.IsListIter it l 0 → FpOk X pins H it → Q (.ref it) s') → wpAny (model X.prog X.w) A1 (call (.ref fi) [.ref p]) Q X.xe s
/-- list(o) -/
theorem caw_listOG {fi : Addr} {fld : Str} {l : Addr} {xs : List TL.D} (hm : Meth X.K C "__iter__" fi) (RI : IterRun X X.A.in1.in1 p fi C fld l) (LE : ListEnd X X.A.in1.in1) (hf : FldO X.K A p C fld l) (ho : RdO A l xs) (hz : xs.length ≤ sizeLine)
    (h : ∀ q, A q = none → HintT X (updA A q (.prim (.lst []))) p C q l xs Q) : CaW X (.type "list") [.ref p] A Q := by
  refine ⟨fun vs H R => vs = [.ref p] ∧ HR X.K A H ∧ ∀ v H' d A', Kp X.K H H' → Rp X.K H' v d → HR X.K A' H' → Q d A' → R v H', ?_, fun H vs hR rps R hq => ?_⟩
  · intro pins s σ H ys us R I rv ⟨e, hR, hq⟩
    subst e
    obtain rfl := Vals.ref1 rv
    refine callType_codes (Q₁ := fun obj s₁ => obj = .ref s.heap.objs.size ∧ s₁ = { s with heap := s.heap.push { cls := .type "list", data := .seq #[] } }) PySem.F.called_list (PySem.F.typeCall_list_1 _) PySem.F.entry_list_init
      (code_list_new _ ⟨rfl, rfl⟩) fun obj s1 hs1 => ?_
    obtain ⟨rfl, rfl⟩ := hs1
    generalize hgen : s.heap.objs.size = q
    have hS : (s.heap.push { cls := .type "list", data := .seq #[] }).get? q = some { cls := .type "list", data := .seq #[] } := by rw [← hgen]; exact Heap.get?_push_size _ rfl
    refine ⟨⟨_, hS, rfl⟩, PySem.F.args_list_init_2 _ _, ?_⟩
    have fr : H q = none := by rw [← hgen]; exact I.hok.fresh (Nat.le_refl _)
    have I1 : Inv X pins σ (upd H q (.lst [])) { s with heap := s.heap.push { cls := .type "list", data := .seq #[] } } := by rw [← hgen]; exact I.lnew (its := []) (t' := s.toks) .nil (Nat.zero_le _)
    show wpAny _ _ (do let old ← Builtin.List.listItems (.ref q); Builtin.List.listUpdate (.ref q) (fun _ => #[]); letGo old.toList.reverse; Builtin.List.listExtendWith (.ref q) (.ref p) .none) _ _ _
    refine wpAny_bind ?_
    unfold Builtin.List.listItems
    refine wpAny_bind (wpAny_seqItems hS rfl (wpAny_pure ?_))
    show wpAny _ _ (updateSeq q (fun _ => #[]) >>= fun _ => letGo (#[] : Array Value).toList.reverse >>= fun _ => Builtin.List.listExtendWith (.ref q) (.ref p) .none) _ _ _
    refine wpAny_bind (wpAny_updateSeq hS rfl ?_)
    have I2 := I1.lset (f := fun _ => #[]) (its := []) (its' := []) (ys := []) (t' := s.toks) upd_same hS rfl .nil (Nat.zero_le _)
    rw [upd_upd] at I2
    refine wpAny_bind (wpAny_letGo ?_)
    have fA : A q = none := hR.free fr
    have ex := ex_upd (o := .lst []) fr
    have kk : Kp X.K H (upd H q (.lst [])) := kp_ex ex
    have hR1 : HR X.K (updA A q (.prim (.lst []))) (upd H q (.lst [])) := hR.new (o := .lst []) fr kk ex ⟨[], upd_same, .nil⟩
    have sA : TL.Sub A (updA A q (.prim (.lst []))) := Sub.upd (Sub.refl A) fA
    obtain ⟨dx, gs, e2, e3⟩ := hf.sub sA _ hR1
    obtain ⟨zs, e4, r4⟩ := (ho.sub sA).at_ hR1
    have hqp : q ≠ p := fun z => by rw [← z, upd_same] at e2; cases e2
    obtain ⟨mA, J, _⟩ := ins_get I2.hok e2
    obtain ⟨od, J, _⟩ := J.look
    obtain ⟨m, hF⟩ := I2.fr
    unfold Builtin.List.listExtendWith
    refine wpAny_bind (J.type.here ?_)
    have t1 : Builtin.List.listSameRef (.ref q) (.ref p) = false := by simp [Builtin.List.listSameRef, hqp]
    have t2 : (Value.ref C == Value.type "list") = false := rfl
    have t3 : (Value.ref C == Value.type "tuple") = false := rfl
    simp only [t1, t2, t3, Bool.or_false, Bool.false_eq_true, if_false]
    refine wpAny_bind (wpAny_mono (E := X.xe) (PySem.W.owit_iter hF I2.ok.mod.kin J hm.at_ hm.fn (RI _ _ _ _ _ _ _ _ I2 e2 e3 e4 fun it s3 I3 hit hfp => ?_)) (fun _ _ z => z) fun e s' z => z)
    unfold PySem.W.OwitIt
    refine wpAny_specialOf hit.typeIs slot_listiter_next.lookup ?_
    obtain ⟨oi, i1, i2, i3⟩ := id hit
    have I4 := I3.pinned (fp := [it]) (fun b hb => by obtain rfl : b = it := (by simpa using hb); exact hfp) (fun b hb => by obtain rfl : b = it := (by simpa using hb); exact ⟨oi, i1, fun v z => by rw [i3] at z; cases z⟩)
    have pin_in : (it, oi) ∈ pinsAt [it] s3.heap := by simp [pinsAt, i1]
    refine wpAny_bind (wpAny_holding (wpAny_mono (E := X.xe) (h q fA X.A.in1.in1 _ σ _ _ _ rfl rfl rfl rfl I4 hR1 fun n s5 H5 A5 I5 k5 hR5 hq5 ho5 q5 => ?_) (fun _ _ z => z) fun e s' z => z))
    have hit5 : s5.heap.IsListIter it l 0 := ⟨oi, (I5.pin (it, oi) (List.mem_append_right _ (List.mem_append_right _ pin_in))).1, i2, i3⟩
    have fp5 : FpOk X pins H5 it := by
      obtain ⟨f0, f1, f2, f3, f4, f5⟩ := hfp
      exact ⟨(I5.pin (it, oi) (List.mem_append_right _ (List.mem_append_right _ pin_in))).2.1, f1, f2, f3, f4, f5⟩
    obtain ⟨vq, e6, r6⟩ := hR5.at_ hq5
    cases r6
    obtain ⟨ws, e7, r7⟩ := ho5.at_ hR5
    have hlq : l ≠ q := fun z => by
      rw [z] at e7
      rw [e6] at e7
      cases e7
      have := Paired.length r7
      rcases ho with o | ⟨g, R, g1, g2⟩
      · rw [z, fA] at o; cases o
      · obtain ⟨mm, w1, _, w3, w4⟩ := hR.open_ g1
        obtain ⟨wv, w5, _⟩ := w4.at_ (over_some (g2 mm w1))
        rw [z, fr] at w5; cases w5
    have hiq : it ≠ q := fun z => by
      have := fp5.1
      rw [z, e6] at this; cases this
    have fin : ∀ s6, Inv X (pins ++ pinsAt [it] s3.heap) σ H5 s6 → s6.heap.IsListIter it l 0 → codeAny (model X.prog X.w) X.A.in1 (.builtin "list.extend.loop" ⟨[.ref q, .ref it, .none], []⟩) (wants (fun r s₂ => r = .none ∧ EP X pins σ R (.ref q) s₂) X.xe) s6 := fun s6 I6 hit6 =>
      ext_loop LE (by rw [Paired.length r7]; exact hz) hlq hiq ws.length 0 H5 s6 rfl (Nat.zero_le _) I6.unpinned hit6 fp5 e7 e6 fun s7 I7 => ⟨rfl, .ref q, _, I7, rfl, by
        obtain ⟨k8, hr8⟩ := hr_write (m' := .lst xs) (u' := .lst ws) hR5 hq5 e6 (by intro _ z; cases z) (by intro _ _ z; cases z) fun k => ⟨ws, upd_same, Rps.keep r7 k⟩
        exact hq _ _ _ _ ((kk.trans k5).trans k8) .ref hr8 q5⟩
    have quiet := plainId_quiet PySem.F.plain_extend_loop ⟨[.ref q, .ref it, .none], []⟩
    refine wpAny_ite_split (fun _ => ?_) (fun _ => wpAny_pure ⟨quiet, fin s5 I5 hit5⟩)
    refine wpAny_bind (wpAny_rule (wpAny_bind (touch_ok I5 e6 fun s6 I6 => wpAny_pure ⟨quiet, fin s6 I6 ?_⟩)))
    exact ⟨oi, (I6.pin (it, oi) (List.mem_append_right _ (List.mem_append_right _ pin_in))).1, i2, i3⟩
  · obtain ⟨v, rfl, hv⟩ := rps1 rps
    cases hv
    exact ⟨rfl, hR, hq⟩
theorem caw_listO {kf : Nat} {fi : Addr} {fld : Str} {l : Addr} {xs : List TL.D} (hm : Meth X.K C "__iter__" fi) (F : ItFn X.prog X.w X.K X.mg X.base kf fi C fld) (hr : Room (kf + 2) X.A) (hf : FldO X.K A p C fld l) (ho : RdO A l xs) (hz : xs.length ≤ sizeLine)
    (h : ∀ q, A q = none → HintT X (updA A q (.prim (.lst []))) p C q l xs Q) : CaW X (.type "list") [.ref p] A Q :=
  caw_listOG hm (fun pins σ H s dx gs zs Q I ha hl hz q => run_it F (sub_in2 hr) I ha hl hz q) (listEnd_calm hr.in1.in1.hd) hf ho hz h
end TL
/-! The tree layer: properties, class constants, range with a step, texts times ints, chains, name = [..], isinstance. -/
namespace TL
open PySem PySem.Spec PyProof.Rows L2
variable {X : Cx} {N : List Str} {sc : Scope} {e a b c o i_ v_ : Expr} {es : List Expr} {st : Stmt} {rest : List Stmt} {δ : Ds} {A : AH} {Q : TQ} {D : TEnds} {d x y z : TL.D} {pos apos p_ : Pos}
variable {k : Nat} {f C p : Addr} {tp : TSp} {ET : TXQ} {pins : List (Addr × Obj)} {σ : St} {H : Hp} {s : Shared} {us : List Value} {vs : List V} {ds : List TL.D}

/-! ### a property -/
theorem wpe_prop {fld : Str} {pa g : Addr} (c : Cls X.K C) (hp : PropOf X.K C fld pa g) (F : FnT X.prog X.w X.K X.mg X.base k g tp) (hr : Room (k + 1) X.A)
    (h : WPE X o δ A fun d A1 => ∃ p, d = .ref p ∧ InsC X.K A1 p C ∧ tp [.ref p] A1 Q NoX) (hb : attributeBase o fld X.env (eval o X.env) = eval o X.env := by rfl) : WPE X (.Attribute o fld pos) δ A Q := fun σ H sl r pins s I => by
  refine attr_of hb (thn (h σ H sl r pins s I) fun u s1 ⟨v, H1, I1, rv, d, A1, k1, rp, hr1, p, e1, it, ht⟩ => ?_)
  subst e1
  cases rp
  obtain rfl := vref rv
  obtain ⟨ox, od, J⟩ := ins_at I1 it hr1
  obtain ⟨rest, hrec⟩ := hp.rec_
  have I2 := I1.tok (s1.toks + 1)
  have hc : (PySem.W.clsIn X.K C).isSome = true := by
    obtain ⟨cd, hc, _⟩ := PySem.W.any_some c.hd
    rw [hc]; rfl
  have pg := PySem.W.plainGet_of (c.get fld)
  obtain ⟨dx, gs, ea⟩ := it H1 hr1
  obtain ⟨mA, O, _, _, _, _⟩ := ins_get I1.hok ea
  obtain ⟨od, J, _⟩ := O.look
  refine PySem.W.get_bind I1.kIn J pg.1 (PySem.W.findObj_data hc hp.at_ hp.get hp.tak) pg.2 (wpAny_call (PySem.W.prop_get (s := { s1 with toks := s1.toks + 1 }) I1.kIn hrec ?_))
  refine codeAny_mono (F X.A.in1 X.stack { s1 with toks := s1.toks + 1 } H1 [.ref p] [.ref p] (LQ X.K H1 Q) (EXT X.K H1 NoX) hr.in1 I2.env0.in1 (.cons rfl .nil) ⟨[.ref p], A1, Q, NoX, rps_one .ref, hr1, ht, fun _ _ q => q, fun _ _ _ q => q⟩) fun r s' hq => ?_
  cases r with
  | error er =>
    exact (noX hq).elim
  | ok fl =>
    cases fl with
    | ret u =>
      obtain ⟨v, H', I3, rv, q3⟩ := I2.after hq
      show wpAny _ _ (handedOut u) _ _ _
      rw [PySem.W.handedOut_of (handed_of rv)]
      exact wpAny_pure ⟨v, H', I3, rv, LQ.from k1 q3⟩
    | next => exact False.elim hq
    | brk => exact False.elim hq
    | cont => exact False.elim hq
/-! ### a class's constant -/
theorem ev_cval {fld : Str} {mc : Value} {v : V} {u : Value} (h : Ev X o δ A (.ref C)) (r : ClX.CRead X.K C mc) (kk : ClX.CVal X.K C mc fld v u) (rp : ∀ H, Rp X.K H v d) (hb : attributeBase o fld X.env (eval o X.env) = eval o X.env := by rfl) : Ev X (.Attribute o fld pos) δ A d := fun A1 k Q q σ H sl r' => by
  refine runE.of (ClX.pe_cval pe_run hb) (runE.mono (h A1 k (fun v A2 => v = .ref C ∧ A2 = A1) ⟨rfl, rfl⟩ σ H sl r') fun w H1 ⟨d', A2, k1, rp', hr, e1, e2⟩ => ?_)
  subst e1 e2
  cases rp'
  exact ⟨C, mc, v, u, rfl, r, kk, _, A2, k1, rp H1, hr, q⟩

/-! ### range(i, j), range(i, j, c) -/
theorem walk_rngC {K : PySem.W.Frag} {lo c : Int} {n : Nat} : Walk (Itc lo c n) n (fun _ => True) (TY K fun i => .int (lo + (i : Nat) * c)) where
  goes := fun i H hi _ => hi
  stops := fun H _ => Nat.le_refl _
  yields := fun i H x H' hi _ ⟨e, y⟩ => by subst e y; exact ⟨Kp.refl _, fun _ q => q, .int⟩
theorem wpi_range3 {tg : Expr} {p : Pos} {R : RW} (B : BC X N sc) (hg : sc.names.lookup ("range" : Str) = some .globalImplicit) (hm : X.mg "range" = none)
    (h : WPA X [a, b, c] δ A fun ds A1 => ∃ (i j c : Int) (n : Nat), ds = [.int i, .int j, .int c] ∧ RgC i j c n ∧ R n (fun t => .int (i + (t : Nat) * c)) (fun _ => True) A1)
    (hs : starEach [a, b, c] X.env = (false, eval a X.env) :: starEach [b, c] X.env := by rfl) (hpl : (backTo pos (starEach [b, c] X.env)).any (·.1) = false := by rfl) : WPI X tg (.Call (.Name "range" p) [a, b, c] [] pos) δ A R := fun σ H s r R0 k => by
  refine runI.of (pi_range3 (B.gl hg) hm pa_run hs hpl) (runA.mono (h σ H s r) fun vs H1 ⟨ds, A1, k1, rps, hr, i, j, cc, n, e, hc, q⟩ => ?_)
  subst e
  obtain ⟨v1, r1, rfl, h1, rps⟩ := rps_cons rps
  obtain ⟨v2, r2, rfl, h2, rps⟩ := rps_cons rps
  obtain ⟨v3, r3, rfl, h3, rps⟩ := rps_cons rps
  have e := rps_nil rps
  subst e
  cases h1; cases h2; cases h3
  exact ⟨i, j, cc, n, rfl, hc, k _ H1 n _ _ A1 (fun _ => True) k1 hr walk_rngC (fun _ _ _ _ _ => trivial) q⟩
theorem wpi_range2 {tg : Expr} {p : Pos} {R : RW} (B : BC X N sc) (hg : sc.names.lookup ("range" : Str) = some .globalImplicit) (hm : X.mg "range" = none)
    (h : WPA X [a, b] δ A fun ds A1 => ∃ (i j : Int), ds = [.int i, .int j] ∧ (-(2 ^ 62) ≤ i ∧ i < 2 ^ 62 ∧ -(2 ^ 62) ≤ j ∧ j < 2 ^ 62) ∧ R (j - i).toNat (fun t => .int (i + (t : Nat))) (fun _ => True) A1)
    (hs : starEach [a, b] X.env = [(false, eval a X.env), (false, eval b X.env)] := by rfl) (hs2 : starEach [b] X.env = [(false, eval b X.env)] := by rfl) : WPI X tg (.Call (.Name "range" p) [a, b] [] pos) δ A R := fun σ H s r R0 k => by
  refine runI.of (pi_range2 (B.gl hg) hm pa_run hs hs2) (runA.mono (h σ H s r) fun vs H1 ⟨ds, A1, k1, rps, hr, i, j, e, hc, q⟩ => ?_)
  subst e
  obtain ⟨v1, r1, rfl, h1, rps⟩ := rps_cons rps
  obtain ⟨v2, r2, rfl, h2, rps⟩ := rps_cons rps
  have e := rps_nil rps
  subst e
  cases h1; cases h2
  exact ⟨i, j, rfl, hc, k _ H1 (j - i).toNat _ _ A1 (fun _ => True) k1 hr walk_rngT (fun _ _ _ _ _ => trivial) q⟩

/-! ### a text times an int -/
theorem op_mulS : OpR X (binaryOp .Mult) (fun x y H Q => ∃ s i, x = .str s ∧ y = .int i ∧ s.length ≤ 16 ∧ i ≤ 1048576 ∧ -(2 ^ 63) ≤ i ∧ Q (.str (Txt.mul s i)) H) := by
  intro pins s σ H x y v u Q I rx ry ⟨z, i, e1, e2, h1, h2, h3, q⟩
  subst e1 e2
  obtain ⟨t, rfl⟩ := rx
  obtain ⟨t', rfl⟩ := ry
  exact SB.mul (mulOk_of 16 1048576 h1 (by simpa using h2) h3 (by decide) (by decide)) fun t' k => ⟨.str (Txt.mul z i), H, I.tok k, ⟨_, rfl⟩, q⟩
theorem opv_mulS {z : Str} {i : Int} (h1 : z.length ≤ 16) (h2 : i ≤ 1048576) (h3 : -(2 ^ 63) ≤ i) : OpV X (binaryOp .Mult) (.str z) (.int i) A (.str (Txt.mul z i)) :=
  opv_of op_mulS fun A1 _ H vx vy hr rx ry R q => by cases rx; cases ry; exact ⟨z, i, rfl, rfl, h1, h2, h3, q _ .str⟩

/-! ### a <= b <= c of ints -/
theorem ev_chainLe {i j l : Int} {pos : Pos} (ha : Ev X a δ A (.int i)) (hb : Ev X b δ A (.int j)) (hc : Ev X c δ A (.int l)) (hm : lastMarks [.LtE, .LtE] [b, c] = false := by with_unfolding_all rfl) :
    Ev X (.Compare a [.LtE, .LtE] [b, c] pos) δ A (.bl (decide (i ≤ j) && decide (j ≤ l))) := fun A1 kk Q q σ H s r => by
  refine runE.of (pe_chain op_le op_le pe_run pe_run pe_run hm) (runE.mono (wpe_two (R := fun x y A2 => x = .int i ∧ y = .int j ∧ A2 = A1) (ha A1 kk _ (hb A1 kk _ ⟨rfl, rfl, rfl⟩)) s r) fun vx H1 h => runE.mono h fun vy H2 ⟨x, y, A2, k2, rx, ry, hr, e1, e2, e3⟩ => ?_)
  subst e1 e2 e3
  cases rx; cases ry
  refine ⟨i, j, rfl, rfl, ?_⟩
  refine ⟨_, rfl, ?_⟩
  by_cases hij : i ≤ j
  · rw [if_pos (by simpa using hij)]
    refine runE.mono (hc A2 kk (fun v A3 => v = .int l ∧ A3 = A2) ⟨rfl, rfl⟩ σ H2 (s.keep k2) hr) fun vz H3 ⟨z, A3, k3, rz, hr3, e4, e5⟩ => ?_
    subst e4 e5
    cases rz
    refine ⟨j, l, rfl, rfl, ?_⟩
    have e : (decide (i ≤ j) && decide (j ≤ l)) = decide (j ≤ l) := by simp [hij]
    rw [e] at q
    exact ⟨_, A3, k2.trans k3, .bl, hr3, q⟩
  · rw [if_neg (by simpa using hij)]
    have e : (decide (i ≤ j) && decide (j ≤ l)) = false := by simp [hij]
    rw [e] at q
    exact ⟨_, A2, k2, .bl, hr, q⟩

/-! ### isinstance(x, list) -/
theorem cav_isList {l : Addr} {xs : List TL.D} (h : A l = some (.prim (.lst xs))) : CaV X (.builtin "isinstance") [.ref l, .ty "list"] A (.bl true) := cav_of call_isi fun A1 k H vs hr rps R q => by
  obtain ⟨v1, r1, rfl, h1, rps⟩ := rps_cons rps
  obtain ⟨v2, rfl, h2⟩ := rps1 rps
  cases h1; cases h2
  obtain ⟨ws, hw, _⟩ := hr.at_ (k _ _ h)
  exact ⟨_, _, .type "list", .type "list", true, rfl, .ty _, .base (.lst hw), by unfold PySem.W.kitOne; rw [if_pos (by rfl)], q _ .bl⟩
/-- a built-in type by its name -/
theorem BC.ty {x : Str} {T : String} (B : BC X N sc) (hg : sc.names.lookup x = some .globalImplicit) (hm : X.mg x = none) (hv : bootBuiltins x = some (.type T)) (hn : x ≠ "__name__" := by decide) (hdb : (x == ("__debug__" : Str)) = false := by decide) : Ev X (.Name x p_) δ A (.ty T) := by
  exact ev_const (v := .ty T) (pe_bltn (B.gl hg) hm hv rfl hn hdb) fun _ => .ty
end TL
namespace TL
open PySem PySem.Spec PyProof.Rows L2
theorem bt_all : bootBuiltins ("all" : Str) = some (.builtin "all") := by kernel_rfl
theorem bt_any : bootBuiltins ("any" : Str) = some (.builtin "any") := by kernel_rfl
theorem bt_len : bootBuiltins ("len" : Str) = some (.builtin "len") := by kernel_rfl
theorem bt_isinstance : bootBuiltins ("isinstance" : Str) = some (.builtin "isinstance") := by kernel_rfl
theorem bt_list : bootBuiltins ("list" : Str) = some (.type "list") := by kernel_rfl
theorem bt_int : bootBuiltins ("int" : Str) = some (.type "int") := by kernel_rfl
end TL
namespace TL
open PySem PySem.Spec PyProof.Rows L2
section
variable {X : Cx} {N : List Str} {sc : Scope} {δ : Ds} {A : AH} {p_ : Pos} {x : Str}
theorem BC.gS {z : Str} (B : BC X N sc) (hg : sc.names.lookup x = some .globalImplicit) (hm : ∃ t, X.mg x = some (.str z t)) (hd : (x == ("__debug__" : Str)) = false := by decide) : Ev X (.Name x p_) δ A (.str z) := by
  obtain ⟨t, hm⟩ := hm
  exact ev_glob (v := .str z) (B.gl hg) hm ⟨_, rfl⟩ (fun _ => .str) hd
theorem BC.gI {i : Int} (B : BC X N sc) (hg : sc.names.lookup x = some .globalImplicit) (hm : ∃ t, X.mg x = some (.int i t)) (hd : (x == ("__debug__" : Str)) = false := by decide) : Ev X (.Name x p_) δ A (.int i) := by
  obtain ⟨t, hm⟩ := hm
  exact ev_glob (v := .int i) (B.gl hg) hm ⟨_, rfl⟩ (fun _ => .int) hd
theorem BC.gR {a : Addr} (B : BC X N sc) (hg : sc.names.lookup x = some .globalImplicit) (hm : X.mg x = some (.ref a)) (hd : (x == ("__debug__" : Str)) = false := by decide) : Ev X (.Name x p_) δ A (.ref a) := 
  ev_glob (v := .ref a) (B.gl hg) hm rfl (fun _ => .ref) hd
end
/-! ### closing what was opened -/
theorem Vw.reclose {A : AH} {m : MH} {p : Addr} {R : MH → Prop} (e : A p = some (.abs R)) (r : R m) (hp : ∃ u, m p = some u) (hn : ∀ b u, b ≠ p → m b = some u → A b = none) : Vw (over A m) A :=
  (Vw.shut (A := over A m) (a := p) (m := m) (R := R) (fun b u h => over_some h) hp r).trans (Vw.sub fun b o h => by
    by_cases z : b = p
    · subst z; rw [e] at h; cases h; exact shut_same
    · cases q : m b with
      | some u => rw [hn b u z q] at h; cases h
      | none => rw [shut_none z q, over_none q]; exact h)
/-- what is seen at some places -/
def pick (A : AH) (S : List Addr) : MH := fun b => if b ∈ S then (match A b with | some (.prim u) => some u | _ => none) else none
theorem pick_at {A : AH} {S : List Addr} {b : Addr} {u : MO} (h : b ∈ S) (e : A b = some (.prim u)) : pick A S b = some u := by unfold pick; rw [if_pos h, e]
theorem of_pick {A : AH} {S : List Addr} {b : Addr} {u : MO} (h : pick A S b = some u) : b ∈ S ∧ A b = some (.prim u) := by
  unfold pick at h
  split at h
  · rename_i hb
    refine ⟨hb, ?_⟩
    cases e : A b with
    | none => rw [e] at h; cases h
    | some o =>
      rw [e] at h
      cases o with
      | prim v => simp at h; rw [h]
      | abs R => cases h
  · cases h
theorem Vw.close {A A2 : AH} {p : Addr} {S : List Addr} {R : MH → Prop} (hS : ∀ b ∈ S, b ≠ p → A b = none) (hA : ∀ b o, b ≠ p → A b = some o → A2 b = some o) (hp : p ∈ S) (hpp : ∃ u, A2 p = some (.prim u)) (hR : R (pick A2 S)) : Vw A2 (updA A p (.abs R)) :=
  (Vw.shut (A := A2) (a := p) (m := pick A2 S) (R := R) (fun b u h => (of_pick h).2) (let ⟨u, h⟩ := hpp; ⟨u, pick_at hp h⟩) hR).trans (Vw.sub fun b o h => by
    by_cases z : b = p
    · subst z; rw [updA_same] at h; cases h; exact shut_same
    · rw [updA_ne z] at h
      cases q : pick A2 S b with
      | some u => rw [hS b (of_pick q).1 z] at h; cases h
      | none => rw [shut_none z q]; exact hA b o z h)
end TL
namespace TL
open PySem PySem.Spec PyProof.Rows L2
theorem Ev.to {X : Cx} {e : Expr} {δ : Ds} {A : AH} {d d' : TL.D} (h : Ev X e δ A d') (k : d' = d) : Ev X e δ A d := k ▸ h
theorem EvT.to {X : Cx} {e : Expr} {δ : Ds} {A : AH} {d d' : Bool} (h : EvT X e δ A d') (k : d' = d) : EvT X e δ A d := k ▸ h
theorem EvN.to {X : Cx} {e : Expr} {δ : Ds} {A : AH} {d d' : MO} (h : EvN X e δ A d') (k : d' = d) : EvN X e δ A d := k ▸ h
end TL
namespace TL
open PySem PySem.Spec PyProof.Rows L2
theorem WPG.to {X : Cx} {tg : Expr} {δ : Ds} {A : AH} {d d' : TL.D} {M : Ds → AH → Prop} (h : WPG X tg d' δ A M) (k : d = d') : WPG X tg d δ A M := k ▸ h
theorem getD_map {α : Type} {f : α → TL.D} {xs : List α} {i : Nat} {z : TL.D} (h : i < xs.length) : (xs.map f).getD i z = f xs[i] := by simp [List.getD, h]
end TL
namespace TL
open PySem PySem.Spec PyProof.Rows L2
/-- what stood outside p stands -/
def Frm (A A2 : AH) (p : Addr) : Prop := ∀ b o, b ≠ p → A b = some o → A2 b = some o
theorem Frm.open_ {A : AH} {m : MH} {p : Addr} (hn : ∀ b u, b ≠ p → m b = some u → A b = none) : Frm A (over A m) p := fun b o hb h => by
  cases q : m b with
  | some u => rw [hn b u hb q] at h; cases h
  | none => rw [over_none q]; exact h
theorem Frm.upd {A A2 : AH} {p a : Addr} {o : AO} (h : Frm A A2 p) (ha : A a = none) : Frm A (updA A2 a o) p := fun b u hb e => by
  rw [updA_ne fun z => by rw [z, ha] at e; cases e]
  exact h b u hb e
theorem Frm.sub {A A2 A3 : AH} {p : Addr} (h : Frm A A2 p) (k : Sub A2 A3) : Frm A A3 p := fun b o hb e => k _ _ (h b o hb e)
theorem Frm.none {A A2 : AH} {p q : Addr} {o : AO} (h : Frm A A2 p) (hp : A2 p = some o) (hq : A2 q = none) : A q = none := by
  cases e : A q with
  | none => rfl
  | some u =>
    by_cases z : q = p
    · subst z; rw [hp] at hq; cases hq
    · rw [h q u z e] at hq; cases hq
theorem upd_new {A : AH} {b q : Addr} {o u : AO} (h : A b = some o) (hq : A q = none) : updA A q u b = some o := Sub.upd (Sub.refl A) hq b o h
theorem upd_ne' {A : AH} {b a : Addr} {o u : AO} (h : A b = some o) (hb : b ≠ a) : updA A a u b = some o := by rw [updA_ne hb]; exact h
theorem ne_kind {A : AH} {a b : Addr} {o u : AO} (h : A a = some o) (k : A b = some u) (n : o ≠ u) : a ≠ b := fun z => by
  subst z; rw [h] at k; exact n (Option.some.inj k)
end TL
/-! the text of the law: where its defs stand -/
namespace TL
open PySem PySem.Spec PyProof.Rows L2
def cbody : Stmt → List Stmt
  | .ClassDef _ _ _ b _ _ _ _ _ _ _ => b
  | _ => []
abbrev R : PySem.W.OpenRow := PySem.W.OpenLaw.row PySem.Challenge.rw_laterwebs_k03_whole_webs_grow
def top (i : Nat) : Stmt := PySem.Challenge.pw_laterwebs_k03_whole_webs_grow.main.body.getD i (.Pass ⟨0, 0, 0, 0⟩)
abbrev c_WebError : Stmt := top 1
abbrev c_TooMany : Stmt := top 2
abbrev c_NoName : Stmt := top 3
abbrev s_NoName_init : Stmt := (cbody c_NoName).getD 0 (.Pass ⟨0, 0, 0, 0⟩)
def N_NoName_init : List Str := ["self", "text"]
-- NoName_init: 0:self 1:text
abbrev c_AlreadyThere : Stmt := top 4
abbrev s_AlreadyThere_init : Stmt := (cbody c_AlreadyThere).getD 0 (.Pass ⟨0, 0, 0, 0⟩)
def N_AlreadyThere_init : List Str := ["self", "name"]
-- AlreadyThere_init: 0:self 1:name
abbrev c_NoPerson : Stmt := top 5
abbrev s_NoPerson_init : Stmt := (cbody c_NoPerson).getD 0 (.Pass ⟨0, 0, 0, 0⟩)
def N_NoPerson_init : List Str := ["self", "name"]
-- NoPerson_init: 0:self 1:name
abbrev c_TakenBack : Stmt := top 6
abbrev s_TakenBack_init : Stmt := (cbody c_TakenBack).getD 0 (.Pass ⟨0, 0, 0, 0⟩)
def N_TakenBack_init : List Str := ["self", "actor", "person"]
-- TakenBack_init: 0:self 1:actor 2:person
abbrev s_is_name : Stmt := top 9
def N_is_name : List Str := ["text", "letter"]
-- is_name: 0:text 1:letter
abbrev s_need_name : Stmt := top 10
def N_need_name : List Str := ["text"]
-- need_name: 0:text
abbrev c_Web : Stmt := top 11
abbrev s_Web_init : Stmt := (cbody c_Web).getD 1 (.Pass ⟨0, 0, 0, 0⟩)
def N_Web_init : List Str := ["self", "people", "name"]
-- Web_init: 0:self 1:people 2:name
abbrev s_Web_welcome : Stmt := (cbody c_Web).getD 2 (.Pass ⟨0, 0, 0, 0⟩)
def N_Web_welcome : List Str := ["self", "name"]
-- Web_welcome: 0:self 1:name
abbrev s_Web_need : Stmt := (cbody c_Web).getD 3 (.Pass ⟨0, 0, 0, 0⟩)
def N_Web_need : List Str := ["self", "names", "name"]
-- Web_need: 0:self 1:names 2:name
abbrev s_Web_len : Stmt := (cbody c_Web).getD 4 (.Pass ⟨0, 0, 0, 0⟩)
def N_Web_len : List Str := ["self"]
-- Web_len: 0:self
abbrev s_Web_iter : Stmt := (cbody c_Web).getD 5 (.Pass ⟨0, 0, 0, 0⟩)
def N_Web_iter : List Str := ["self"]
-- Web_iter: 0:self
abbrev s_Web_contains : Stmt := (cbody c_Web).getD 6 (.Pass ⟨0, 0, 0, 0⟩)
def N_Web_contains : List Str := ["self", "name"]
-- Web_contains: 0:self 1:name
abbrev s_Web_getitem : Stmt := (cbody c_Web).getD 7 (.Pass ⟨0, 0, 0, 0⟩)
def N_Web_getitem : List Str := ["self", "pair", "actor", "person"]
-- Web_getitem: 0:self 1:pair 2:actor 3:person
abbrev s_Web_setitem : Stmt := (cbody c_Web).getD 8 (.Pass ⟨0, 0, 0, 0⟩)
def N_Web_setitem : List Str := ["self", "pair", "value", "actor", "person", "gained", "name", "known", "other"]
-- Web_setitem: 0:self 1:pair 2:value 3:actor 4:person 5:gained 6:name 7:known 8:other
abbrev s_Web_ties : Stmt := (cbody c_Web).getD 9 (.Pass ⟨0, 0, 0, 0⟩)
def N_Web_ties : List Str := ["self"]
-- Web_ties: 0:self
abbrev s_Web_grown : Stmt := (cbody c_Web).getD 10 (.Pass ⟨0, 0, 0, 0⟩)
def N_Web_grown : List Str := ["self", "people", "ties", "mine", "later", "actor", "person", "name"]
-- Web_grown: 0:self 1:people 2:ties 3:mine 4:later 5:actor 6:person 7:name
abbrev s_Web_grows_into : Stmt := (cbody c_Web).getD 11 (.Pass ⟨0, 0, 0, 0⟩)
def N_Web_grows_into : List Str := ["self", "other", "name", "actor", "person"]
-- Web_grows_into: 0:self 1:other 2:name 3:actor 4:person
abbrev s_law_cell : Stmt := top 13
def N_law_cell : List Str := ["_law_script", "_law_k"]
-- law_cell: 0:_law_script 1:_law_k
abbrev s_law_tape : Stmt := top 14
def N_law_tape : List Str := ["_law_script", "_law_spot", "_law_count", "_law_cell_here", "_law_rest", "_law_base", "_law_tape_here", "_law_k", "_law_mixed"]
-- law_tape: 0:_law_script 1:_law_spot 2:_law_count 3:_law_cell_here 4:_law_rest 5:_law_base 6:_law_tape_here 7:_law_k 8:_law_mixed
abbrev s_law_name : Stmt := top 15
def N_law_name : List Str := ["_law_number", "_law_letters", "_law_rest", "_law_name_here", "_law_k"]
-- law_name: 0:_law_number 1:_law_letters 2:_law_rest 3:_law_name_here 4:_law_k
abbrev s_law_names : Stmt := top 16
def N_law_names : List Str := ["_law_tape_here", "_law_names_here", "_law_k", "_law_name_here"]
-- law_names: 0:_law_tape_here 1:_law_names_here 2:_law_k 3:_law_name_here
abbrev s_law_ties : Stmt := top 17
def N_law_ties : List Str := ["_law_tape_here", "_law_names_here", "_law_ties_here", "_law_k", "_law_number", "_law_actor"]
-- law_ties: 0:_law_tape_here 1:_law_names_here 2:_law_ties_here 3:_law_k 4:_law_number 5:_law_actor
abbrev s_law_growth : Stmt := top 18
def N_law_growth : List Str := ["_law_script", "_law_spot", "_law_names_here", "_law_tape_here", "_law_later", "_law_k", "_law_name_here", "_law_ties_here", "_law_number", "_law_actor"]
-- law_growth: 0:_law_script 1:_law_spot 2:_law_names_here 3:_law_tape_here 4:_law_later 5:_law_k 6:_law_name_here 7:_law_ties_here 8:_law_number 9:_law_actor
abbrev s_law_kept_ties : Stmt := top 19
def N_law_kept_ties : List Str := ["_law_ties_here", "_law_kept", "_law_tie"]
-- law_kept_ties: 0:_law_ties_here 1:_law_kept 2:_law_tie
abbrev s_law_reach : Stmt := top 20
def N_law_reach : List Str := ["_law_names_here", "_law_ties_here", "_law_reach_here", "_law_name_here", "_law_found", "_law_k", "_law_tie"]
-- law_reach: 0:_law_names_here 1:_law_ties_here 2:_law_reach_here 3:_law_name_here 4:_law_found 5:_law_k 6:_law_tie
abbrev s_law_truth : Stmt := top 21
def N_law_truth : List Str := ["_law_value", "_law_wanted"]
-- law_truth: 0:_law_value 1:_law_wanted
abbrev s_law_pairs : Stmt := top 22
def N_law_pairs : List Str := ["_law_web_here", "_law_names_here", "_law_reach_here", "_law_actor", "_law_person"]
-- law_pairs: 0:_law_web_here 1:_law_names_here 2:_law_reach_here 3:_law_actor 4:_law_person
abbrev s_law_web : Stmt := top 23
def N_law_web : List Str := ["_law_names_here", "_law_ties_here", "_law_web_here", "_law_name_here", "_law_tie"]
-- law_web: 0:_law_names_here 1:_law_ties_here 2:_law_web_here 3:_law_name_here 4:_law_tie
abbrev s_law_grown : Stmt := top 24
def N_law_grown : List Str := ["_law_web_here", "_law_ties_here", "_law_fresh"]
-- law_grown: 0:_law_web_here 1:_law_ties_here 2:_law_fresh
abbrev s_law_strangers : Stmt := top 25
def N_law_strangers : List Str := ["_law_names_here", "_law_letters", "_law_letter"]
-- law_strangers: 0:_law_names_here 1:_law_letters 2:_law_letter
abbrev s_law_grows : Stmt := top 26
def N_law_grows : List Str := ["_law_first", "_law_second", "_law_actor", "_law_person"]
-- law_grows: 0:_law_first 1:_law_second 2:_law_actor 3:_law_person
abbrev s_law_built : Stmt := top 27
def N_law_built : List Str := ["_law_names_here", "_law_ties_here"]
-- law_built: 0:_law_names_here 1:_law_ties_here
abbrev s_law_same : Stmt := top 28
def N_law_same : List Str := ["_law_web_here", "_law_names_here", "_law_ties_here"]
-- law_same: 0:_law_web_here 1:_law_names_here 2:_law_ties_here
abbrev s_law_refused : Stmt := top 29
def N_law_refused : List Str := ["_law_web_here", "_law_tie", "_law_fresh", "e"]
-- law_refused: 0:_law_web_here 1:_law_tie 2:_law_fresh 3:e
abbrev s_law_late : Stmt := top 30
def N_law_late : List Str := ["_law_web_here", "_law_fresh"]
-- law_late: 0:_law_web_here 1:_law_fresh
abbrev s_law_many : Stmt := top 31
def N_law_many : List Str := ["_law_names_here", "_law_free", "_law_web_here", "_law_most", "_law_late_here", "_law_more"]
-- law_many: 0:_law_names_here 1:_law_free 2:_law_web_here 3:_law_most 4:_law_late_here 5:_law_more
abbrev s_law_slow : Stmt := top 32
def N_law_slow : List Str := ["_law_web_here", "_law_names_here", "_law_ties_here", "_law_reach_here", "_law_slow_here", "_law_name_here", "_law_alone", "_law_tie"]
-- law_slow: 0:_law_web_here 1:_law_names_here 2:_law_ties_here 3:_law_reach_here 4:_law_slow_here 5:_law_name_here 6:_law_alone 7:_law_tie
abbrev s_law_empty : Stmt := top 33
def N_law_empty : List Str := ["_law_web_here", "_law_name_here", "_law_none"]
-- law_empty: 0:_law_web_here 1:_law_name_here 2:_law_none
abbrev s_law_names_refused : Stmt := top 34
def N_law_names_refused : List Str := ["_law_web_here", "_law_names_here", "_law_free", "_law_odd", "_law_tie", "_law_fresh"]
-- law_names_refused: 0:_law_web_here 1:_law_names_here 2:_law_free 3:_law_odd 4:_law_tie 5:_law_fresh
abbrev s_law_apart : Stmt := top 35
def N_law_apart : List Str := ["_law_web_here", "_law_later", "_law_names_here", "_law_ties_here", "_law_grown_here", "_law_free", "_law_more"]
-- law_apart: 0:_law_web_here 1:_law_later 2:_law_names_here 3:_law_ties_here 4:_law_grown_here 5:_law_free 6:_law_more
abbrev s_law : Stmt := top 36
def N_law : List Str := ["_law_script", "_law_tape_here", "_law_names_here", "_law_ties_here", "_law_reach_here", "_law_web_here", "_law_grown_here", "_law_later", "_law_tie", "_law_closed", "_law_actor", "_law_person", "_law_webs", "_law_first", "_law_second"]
-- law: 0:_law_script 1:_law_tape_here 2:_law_names_here 3:_law_ties_here 4:_law_reach_here 5:_law_web_here 6:_law_grown_here 7:_law_later 8:_law_tie 9:_law_closed 10:_law_actor 11:_law_person 12:_law_webs 13:_law_first 14:_law_second
end TL
namespace TL
open PySem PySem.Spec PyProof.Rows L2
variable {P : Program} {w : World} {K : PySem.W.Frag} {mg : Str → Option Value} {base : Heap} {k : Nat}

def letters : Str := "abcdefghijklmnopqrstuvwxyz"
def isName (z : Str) : Bool := (decide ((1 : Int) ≤ (z.length : Int)) && decide ((z.length : Int) ≤ 8)) && z.cps.toList.all fun c => decide (c ∈ letters.cps.toList)
/-- is_name(text) -/
def tpIsName : TSp := fun ds A Q E => ∃ z : Str, ds = [.str z] ∧ z.length ≤ sizeLine ∧ Q (.bl (isName z)) A
theorem sc_is_name : FnScope N_is_name ["text"] (defScope s_is_name) := ⟨rfl, rfl, rfl, by decide +kernel, rfl, by decide +kernel, by decide +kernel⟩
theorem body_is_name (hA : mg "all" = none) (hL : mg "len" = none) (hLet : ∃ t, mg "LETTERS" = some (.str letters t)) : BodyT P w K mg base N_is_name (defScope s_is_name) k (defBody s_is_name) tpIsName := by
  intro X bd ds A Q ET hx ⟨z, e, hz, q⟩
  obtain ⟨rfl, rfl, rfl, rfl, rfl, B, room, _, _⟩ := bd
  subst e
  obtain ⟨tl, hLet⟩ := hLet
  refine wpb_cons (wps_ret (Ev.wp (d := .bl (isName z)) ?_ (RV.mk q)))
  refine ev_and (ev_chainLe ev_int (B.toBC.eB rfl hL bt_len (eva_cons (B.toBC.nm (i := 0) rfl rfl (.inl rfl)) eva_nil) (cav_lenS hz)) ev_int) fun hk => ev_one ?_
  refine B.toBC.eBN rfl hA bt_all (BC.elc (own := [("letter", 1)]) (ys := z.cps.toList) (en := fun c => .str ⟨#[c]⟩) .no (fun _ => true) (fun c => .bl (decide (c ∈ letters.cps.toList))) B (by decide +kernel) (j := 1) rfl rfl (by decide) (evi_str (B.toBC.nm (i := 0) rfl rfl (.inl rfl))) hz (fun _ _ => rfl) fun c _ _ s H0 C cl fp => ?_) fun A1 p sA hp => ?_
  · refine ev_cmp (B.toBC.blk.nm (i := 1) rfl rfl (.inl rfl)) (B.toBC.blk.gS rfl ⟨_, hLet⟩) opv_inS rfl
  · have e : (z.cps.toList.filter fun _ => true) = z.cps.toList := List.filter_eq_self.mpr fun _ _ => rfl
    rw [e, show (z.cps.toList.map fun c => (TL.D.bl (decide (c ∈ letters.cps.toList)))) = (z.cps.toList.map fun c => decide (c ∈ letters.cps.toList)).map TL.D.bl by rw [List.map_map]; rfl] at hp
    have z1 := cav_all B.calm (.inl hp)
    rw [List.all_map] at z1
    exact z1
end TL
/-! try with several clauses, some of them with a name -/
namespace TL
open PySem PySem.Spec PyProof.Rows
open L2 hiding XE Takes CX MkP PMk ps_raise mk_of ps_try_as ps_try_many pmk_own passAt takes_of passes_call XE.new XE.of_call XE.leave Takes.imp Sky.land
open L2N hiding St

/-- one clause: the class, the slot of its name, what its suite does -/
structure Hd where
  c : Value
  i : Option Nat
  ts : Addr → Value → Option Addr → TS
def endAs : Option Nat → Ends → Ends
  | none, D => D
  | some i, D => { nx := fun σ H => D.nx (σ.set i none) H, rt := D.rt, bk := fun σ H => D.bk (σ.set i none) H, ct := fun σ H => D.ct (σ.set i none) H }
def setAs (a : Addr) : Option Nat → L2.St → L2.St
  | none, σ => σ
  | some i, σ => σ.set i (some (.ref a))
/-- what the clauses wish of an exception of the body -/
def wHds (K : PySem.W.Frag) (Wout : WX) (D : Ends) : List Hd → WX
  | [] => Wout
  | h :: r => fun cls d σ H => ∃ b, PySem.W.exmOne K cls h.c = some b ∧ (b = true → ∀ a, H a = none → h.ts a cls d (endAs h.i D) (setAs a h.i σ) H) ∧ (b = false → wHds K Wout D r cls d σ H)
/-- the suite of a clause, read -/
abbrev SuiteR (X : Cx) (st : List Stmt) (ts : Addr → Value → Option Addr → TS) : Prop := ∀ (a : Addr) (ox : Obj) (cls : Value) (d : Option Addr) (pn : List (Addr × Obj)), Zn cls d ox → (∃ vs, ox.data = .fields vs) → PSs (X.suite a ((a, ox) :: pn)) st (ts a cls d)
inductive HdsL (X : Cx) : List ExceptHandler → List Hd → Prop
  | nil : HdsL X [] []
  | only {x : Str} {c : Value} {ts : Addr → Value → Option Addr → TS} {st₀ : Stmt} {st : List Stmt} {np hp : Pos} {hds : List ExceptHandler} {l : List Hd} (hc : Names X x c) (hsu : SuiteR X (st₀ :: st) ts) (r : HdsL X hds l) :
      HdsL X (.ExceptHandler (some (.Name x np)) none (st₀ :: st) hp :: hds) (⟨c, none, ts⟩ :: l)
  | as_ {x n : Str} {i : Nat} {c : Value} {ts : Addr → Value → Option Addr → TS} {st₀ : Stmt} {st : List Stmt} {np hp : Pos} {hds : List ExceptHandler} {l : List Hd} (hi : X.N[i]? = some n) (hln : X.env.kindOf n = some .local) (hc : Names X x c) (hsu : SuiteR X (st₀ :: st) ts) (r : HdsL X hds l) :
      HdsL X (.ExceptHandler (some (.Name x np)) (some n) (st₀ :: st) hp :: hds) (⟨c, some i, ts⟩ :: l)
section
variable {X : Cx} {pins : List (Addr × Obj)} {σ σ' : L2.St} {H H' : Hp} {D : Ends} {Wout : WX}
/-- an end within the suite is one outside -/
theorem unsuite_sp {a : Addr} {q : Addr × Obj} {f : Flow} {s : Shared} (ok : X.Ok) (h : SP (X.suite a (q :: (X.pn ++ pins))) [] D f s) : SP X pins D f s := by
  cases f with
  | next => exact let ⟨σ1, H1, S, q⟩ := h; ⟨σ1, H1, S.unsuite ok, q⟩
  | brk => exact let ⟨σ1, H1, S, q⟩ := h; ⟨σ1, H1, S.unsuite ok, q⟩
  | cont => exact let ⟨σ1, H1, S, q⟩ := h; ⟨σ1, H1, S.unsuite ok, q⟩
  | ret u => exact let ⟨v, σ1, H1, S, r, q⟩ := h; ⟨v, σ1, H1, S.unsuite ok, r, q⟩
end
theorem ps_tryL {X : Cx} {body : List Stmt} {h₀ : ExceptHandler} {hds : List ExceptHandler} {l : List Hd} {pos : Pos} {tb : WX → TS} {Wout : WX} (hN : X.N.Nodup) (hs : X.stack = X.env :: X.outer) (hf : X.env.frame = some X.env.locals) (tk : Takes X Wout)
    (hb : ∀ (W : WX) (pn : List (Addr × Obj)) (xe : Value → Shared → Prop), Takes (X.tr pn xe) W → PassesOwn (model X.prog X.w) X.A X.env xe → PSs (X.tr pn xe) body (tb W))
    (hh : HdsL X (h₀ :: hds) l) : PS X (.Try body (h₀ :: hds) [] [] pos) (fun D σ H => tb (wHds X.K Wout D l) D σ H) := by
  refine ⟨fun pins s σ H D I h => ?_⟩
  have ok := I.ok
  have frames : X.A.frames = some (X.env :: X.outer) := ok.frames.trans (by rw [hs])
  let catch_ : Value → Shared → Prop := fun e t => wpAny (model X.prog X.w) X.A (noteFrame e X.env) (fun _ t2 => wpAny (model X.prog X.w) X.A (setFlight e none) (fun _ t3 => wpAny (model X.prog X.w) X.A (handleBy e X.env (h₀ :: hds)) (SP X pins D) X.xe t3) X.xe t2) X.xe t
  have caught : Takes (X.tr (X.pn ++ pins) catch_) (wHds X.K Wout D l) := by
    intro u t xx
    obtain ⟨a, B, sI, pins1, σ1, H1, cls, d, rfl, J0, nb, up, sky, na, os, ag, wish⟩ := xx
    have J : Inv X pins σ1 H1 sI := J0.ofTry ok
    rw [show (X.tr (X.pn ++ pins) catch_).stack = X.env :: X.outer from hs] at sky
    show wpAny (model X.prog X.w) X.A (noteFrame (.ref a) X.env) _ _ _
    refine L2N.Sky.land Zn.steady frames hf sky fun g fl up3 => ?_
    have JL : Inv X pins σ1 H1 { t with heap := g } := J.landed nb fl.1 (up.trans up3) os ag
    obtain ⟨ox, vs, ha, hz, hd⟩ := fl.there
    have apart : a ∉ frs (X.env :: X.outer) := fun hm => by
      obtain ⟨_, o2, e2, hnf⟩ := fl.2.2.1.mem hm
      rw [ha] at e2; cases e2
      exact hnf _ hd
    have nL : a ≠ X.env.locals := fun z => apart (List.mem_filterMap.mpr ⟨X.env, List.mem_cons_self, by rw [hf, z]⟩)
    have nF : a ∉ X.fs := fun hm => by
      obtain ⟨e, he, q⟩ := List.mem_filterMap.mp hm
      exact apart (List.mem_filterMap.mpr ⟨e, List.mem_cons_of_mem _ he, q⟩)
    have SL := JL.suite ha hd na nL nF
    have go : ∀ {hs' : List ExceptHandler} {l' : List Hd}, HdsL X hs' l' → wHds X.K Wout D l' cls d σ1 H1 → wpAny (model X.prog X.w) X.A (handleBy (.ref a) X.env hs') (SP X pins D) X.xe { t with heap := g } := by
      intro hs' l' hk
      have LT : PySem.W.Looks (model X.prog X.w) g (typeOf (.ref a)) cls := fun A Q E s k q => wpAny_typeOf_ref (k _ _ ha) (by rw [hz.1]; exact q)
      have name : ∀ {x : Str} {c : Value} {np : Pos} {Q : Value → Shared → Prop} {E : Value → Shared → Prop}, Names X x c → Q c { t with heap := g } → wpAny (model X.prog X.w) (X.A.mark (some (.ref a))) (eval (.Name x np) X.env) Q E { t with heap := g } := fun {x c np Q E} hc q => by
        obtain ⟨hg, hdbg, hm | ⟨hm, hv, hnn⟩⟩ := hc
        · exact ld_glob (X := X.suite a ((a, ox) :: (X.pn ++ pins))) SL hg hm q hdbg
        · exact ld_blt (X := X.suite a ((a, ox) :: (X.pn ++ pins))) SL hg hm hv q hnn hdbg
      induction hk with
      | nil =>
        intro wish
        refine wpAny_handleBy_nil ?_
        obtain ⟨_, _, _, oy, ws, T, _, _, hy, _, hdy, h1, _⟩ := id fl
        unfold PySem.passOn
        refine wpAny_bind (wpAny_field hy hdy h1 ?_)
        rw [if_neg (show ¬ ((Value.ref T == Value.none) = true) from by simp)]
        have away : wpAny (model X.prog X.w) X.A (setFlight (.ref a) X.env.frame) (fun _ t4 => wpAny (model X.prog X.w) X.A (throw (.ref a) : Sem Flow) (SP X pins D) X.xe t4) X.xe { t with heap := g } := by
          rw [hf]
          refine HandSPX.setFlight_upZ fl fun g4 hh4 up4 => wpAny_throw (tk _ _ ?_)
          exact ⟨a, B, sI, pins, σ1, H1, cls, d, rfl, J, nb, (up.trans up3).trans up4, .inr (.inr (by rw [hs]; exact hh4)), na, os, ag, wish⟩
        first
          | exact wpAny_bind (wpAny_pure (wpAny_bind away))
          | exact wpAny_bind away
      | @only x c ts st₀ st np hp hds2 l2 hc hsu r ih =>
        intro ⟨b, hb1, hyes, hno⟩
        refine wpAny_handleBy_cons (codeAny_handlers_test ?_) (by intro q; cases q)
        refine name hc ((PySem.W.exm_one (M := model X.prog X.w) JL.kIn LT hb1).here ?_)
        cases b with
        | false => exact ih (hno rfl)
        | true =>
          refine codeAny_handlers_suite ?_
          refine HandSPX.lands_againZ fl fun g4 fl4 up4 => ?_
          obtain ⟨oz, ws, hz1, hz2, hz3⟩ := fl4.there
          have J4 : Inv X pins σ1 H1 { t with heap := g4 } := J.landed nb fl4.1 ((up.trans up3).trans up4) os ag
          have S4 := J4.suite hz1 hz3 na nL nF
          exact wpAny_mono ((hsu a oz cls d (X.pn ++ pins) hz2 ⟨_, hz3⟩).run [] _ _ H1 _ S4 (hyes rfl a na)) (fun f s6 hsp => by
            cases f <;> exact unsuite_sp ok hsp) fun _ _ z => False.elim z
      | @as_ x n i c ts st₀ st np hp hds2 l2 hi hln hc hsu r ih =>
        intro ⟨b, hb1, hyes, hno⟩
        refine wpAny_handleBy_cons (codeAny_handlers_test ?_) (by intro q; cases q)
        refine name hc ((PySem.W.exm_one (M := model X.prog X.w) JL.kIn LT hb1).here ?_)
        cases b with
        | false => exact ih (hno rfl)
        | true =>
          refine codeAny_handlers_suite_as ?_
          refine HandSPX.lands_againZ fl fun g4 fl4 up4 => ?_
          obtain ⟨oz, ws, hz1, hz2, hz3⟩ := fl4.there
          have J4 : Inv X pins σ1 H1 { t with heap := g4 } := J.landed nb fl4.1 ((up.trans up3).trans up4) os ag
          have S4 := J4.suite hz1 hz3 na nL nF
          refine store_ok (X := X.suite a ((a, oz) :: (X.pn ++ pins))) (v := .ref a) S4 hN hi (.inl hln) rfl (fun s5 S5 => ?_) (.inr hln)
          refine wpAny_mono ((hsu a oz cls d (X.pn ++ pins) hz2 ⟨_, hz3⟩).run [] s5 _ H1 _ S5 (hyes rfl a na)) (fun f s6 hsp => ?_) (fun _ _ z => False.elim z)
          have gone : ∀ {σ6 : L2.St} {H6 : Hp} {Q : Shared → Prop}, Inv X pins σ6 H6 s6 → (∀ s7, Inv X pins (σ6.set i none) H6 s7 → Q s7) → wpAny (model X.prog X.w) X.A (do bindName X.env n .none; unbindBehindTheSuite X.env n hp) (fun _ s7 => Q s7) X.xe s6 := fun S6 hq => gone_ok S6 hN hi hln hq
          cases f with
          | next => exact let ⟨σ6, H6, S6, q6⟩ := hsp; gone (S6.unsuite ok) fun s7 J7 => ⟨_, _, J7, q6⟩
          | brk => exact let ⟨σ6, H6, S6, q6⟩ := hsp; gone (S6.unsuite ok) fun s7 J7 => ⟨_, _, J7, q6⟩
          | cont => exact let ⟨σ6, H6, S6, q6⟩ := hsp; gone (S6.unsuite ok) fun s7 J7 => ⟨_, _, J7, q6⟩
          | ret u => exact let ⟨v6, σ6, H6, S6, r6, q6⟩ := hsp; gone (S6.unsuite ok) fun s7 J7 => ⟨_, _, _, J7, r6, q6⟩
    exact go hh wish
  refine wpAny_Try_except ?_
  refine wpAny_mono ((hb (wHds X.K Wout D l) (X.pn ++ pins) catch_ caught PassesOwn.looking).run [] s σ H D (I.toTry _) h) (fun f s1 hsp => ?_) fun e s1 he => he
  cases f with
  | next => exact let ⟨σ1, H1, S, q⟩ := hsp; wpAny_execs_nil ⟨σ1, H1, S.ofTry ok, q⟩
  | brk => exact let ⟨σ1, H1, S, q⟩ := hsp; ⟨σ1, H1, S.ofTry ok, q⟩
  | cont => exact let ⟨σ1, H1, S, q⟩ := hsp; ⟨σ1, H1, S.ofTry ok, q⟩
  | ret u => exact let ⟨v, σ1, H1, S, r, q⟩ := hsp; ⟨v, σ1, H1, S.ofTry ok, r, q⟩
end TL
/-! own exceptions over ValueError whose __init__ says super().__init__("..") and stores its parameters -/
namespace TL
open PySem PySem.Spec PyProof.Rows L2

abbrev VE : String := "ValueError.__init__"
section
variable {X : Cx} {pins : List (Addr × Obj)} {σ : L2.St} {H : Hp} {s : Shared} {a C u : Addr}
/-- the bound ValueError.__init__ called: the exception's arguments are laid anew -/
theorem mw_call {A1 : Around} {us : List Value} {Q : Value → Shared → Prop} {E : Value → Shared → Prop} (T : OexC X.K C) (I : Inv X pins σ H s) (hu : s.heap.get? u = some (PySem.W.kxs_mw VE a)) (e : H a = some (exo a C none)) (hz : us.length ≤ sizeLine)
    (h : ∀ s', Inv X pins σ H s' → Q .none s') : wpAny (model X.prog X.w) A1 (call (.ref u) us) Q E s := by
  obtain ⟨nm, q, N, bs, bm, sn, sub, ab, col, dd, k0, k1, k2, k3, k5, hK, hbm⟩ := T.cls
  have hC := I.kIn _ _ hK
  obtain ⟨t1, ho⟩ := exo_at I.hok e
  have FB := PySem.F.excBase_ValueError
  obtain ⟨hh, g, d, tk, os⟩ := s
  refine wpAny_call (codeAny_of_tree ?_)
  show wpAny _ A1.in1 (callAny (.ref u) ⟨us, []⟩) _ _ _
  simp only [callAny]
  refine wpAny_bind (wpAny_load hu ?_)
  simp only [PySem.W.kxs_mw, show (Value.type "method-wrapper" == Value.type "method" || Value.type "method-wrapper" == Value.type "builtin_function_or_method" || Value.type "method-wrapper" == Value.type "method-wrapper") = true by decide, if_true]
  refine PySem.W.KFB.if_so (by decide) ?_
  refine wpAny_bind (PySem.W.check_bound_init FB.toExcCallFacts hC ho rfl ?_)
  refine wpAny_bind (wpAny_pure (wpAny_pure ?_))
  refine ⟨plainId_quiet FB.init.plain _, codeAny_builtin FB.initEntry ?_⟩
  refine PySem.W.exc_init_tree (cls := .ref C) (t0 := t1) (dv := none) (c2 := .none) (c3 := .none) (b4 := .bool false) ho hz fun h' k he' ht' => ?_
  have J := I.write (x := a) (e := a) (o := exo a C none) (h' := h') (t' := tk) (by rw [e]; exact True.intro) (.inl rfl) (fun b o hb z => k b o hb z) ⟨_, he'⟩ (exo_ok he')
  have eH : upd H a (exo a C none) = H := by
    funext b
    by_cases hb : b = a
    · rw [hb, upd_same, e]
    · rw [upd_ne hb]
  rw [eH] at J
  exact h _ J
end
end TL
namespace TL
open PySem PySem.Spec PyProof.Rows L2
theorem bt_super : bootBuiltins ("super" : Str) = some (.type "super") := by kernel_rfl
/-- what the written part says of a class whose __init__ says super().__init__ -/
structure SupC (P : Program) (K : PySem.W.Frag) (C cda cc : Addr) : Prop where
  oex : OexC K C
  sub : PySem.W.subIn K (.ref C) (.type "ValueError") = some true
  self_ : PySem.W.mroIn K C (.ref C) = some true
  sup : PySem.W.ks_superIn K C C "__init__" = some (some (.builtin VE))
  cell : ∃ cl cld csl, K.lookup cc = some ⟨cl, cld, .cell (some (.ref C)), csl⟩
  code : ∃ ccl cdd vs ccs file tf, K.lookup cda = some ⟨ccl, cdd, .fields vs, ccs⟩ ∧ vs[2]? = some (.str file tf) ∧ ((P.main.file : Str) == file) = true
  stat : PySem.W.nsIn K cStatics "thirdparty.any" = some none
section
variable {X : Cx} {σ : L2.St} {H : Hp} {s : Shared} {a C f cda cc : Addr} {fd : FuncData} {oc : Value} {od : Option Addr} {osl : Array (Option Value)} {body : List Stmt} {msg : Str} {j : Option String} {p0 p1 p2 p3 p4 p5 : Pos}
theorem super_ok {pl : Sem Bool} {kn : Nat} {Q : Flow → Shared → Prop} (T : SupC X.prog X.K C cda cc) (I : Inv X [] σ H s) (e : H a = some (exo a C none)) (hN : X.N[0]? = some ("self" : Str)) (hσ : σ[0]? = some (some (.ref a)))
    (hks : X.env.kindOf "super" = some .globalImplicit) (hkc : X.env.kindOf "__class__" = some .free) (hkl : X.env.kindOf "self" = some .local) (hcl : X.env.cells.lookup ("__class__" : Str) = some cc) (hfu : X.env.func = some f) (hco : X.env.code = .ref cda)
    (hf : X.K.lookup f = some ⟨oc, od, .func fd, osl⟩) (hp : ∃ an ap, (fd.params.posonlyargs ++ fd.params.args).head? = some ⟨"self", an, ap⟩) (htop : (X.prog.main.scope.names.lookup ("super" : Str)).isSome = false) (hm : X.mg "super" = none)
    (h : ∀ s', Inv X [] σ H s' → Q .next s')
    (he : eval (.Call (.Attribute (.Call (.Name "super" p0) [] [] p1) "__init__" p2) [.Constant (.str msg) kn p3] [] p4) X.env = (do
      let ov ← attributeBase (.Call (.Name "super" p0) [] [] p1) "__init__" X.env (eval (.Call (.Name "super" p0) [] [] p1) X.env)
      standAt p2.atName
      let (f, first) ← holding [ov] (getMethod ov "__init__" pl)
      callWith p4 f first (backTo p4 (starEach [.Constant (.str msg) kn p3] X.env)) []) := by rfl) :
    PySem.wpAt (model X.prog X.w) X.A (.func body X.env) (exec (.Expr (.Call (.Attribute (.Call (.Name "super" p0) [] [] p1) "__init__" p2) [.Constant (.str msg) kn p3] [] p4) p5) X.env) Q X.xe s := by
  obtain ⟨ccl, cdd, vs, ccs, file, tf, hcode, hvs, hfile⟩ := T.code
  obtain ⟨cl, cld, csl, hcell⟩ := T.cell
  obtain ⟨nm, q, N, bs, bm, sn, sub, ab, col, dd, k0, k1, k2, k3, k5, hK, hbm⟩ := T.oex.cls
  have hC := I.kIn _ _ hK
  obtain ⟨an, ap, hp⟩ := hp
  obtain ⟨mb, hb1, hb2⟩ := I.mod.blt
  obtain ⟨m, hns, hlk⟩ := I.loc
  obtain ⟨u0, ru, lk⟩ := hlk 0 "self" (.ref a) hN hσ (.inl hkl)
  obtain rfl := vref ru
  have hself : m "self" = some (.ref a) := by
    rcases lk with ⟨_, z⟩ | ⟨z, _⟩
    · exact z
    · rcases z with z | z <;> (rw [hkl] at z; cases z)
  obtain ⟨t1, ho⟩ := exo_at I.hok e
  have hk := I.ok.kind
  have hint : interactive X.env = false := by unfold interactive; rw [hk]; rfl
  have hcd : PySem.W.clsIn X.K C = some { name := nm, bases := bs, mro := .ref C :: bm, ns := N, qualname := q, hasDict := true, slotNames := sn, subclasses := sub, abstract := ab, collection := col, hasDel := false } := by unfold PySem.W.clsIn; rw [hK] <;> rfl
  refine ks_wpAt_Expr_any ?_ hint (by rfl)
  refine ks_wpAt_MethodCall (pl := pl) ?_ he
  refine ks_wpAt_super_base hks hkc rfl hfu (I.kIn _ _ hf) rfl hp hco (I.kIn _ _ hcode) rfl hvs hfile htop ?_
  · refine PySem.W.ks_loadName_global hk hks (Calls.loadGlobal_builtin (mg := X.mg) (mb := mb) (by rw [I.ok.glob]; exact I.mod.glob.keeps I.bk) hm (by rw [I.ok.blt]; exact hb1.keeps I.bk) ((hb2 _ (by decide)).trans bt_super) ⟨rfl, ?_⟩)
    refine wpAny_loadName_free hk hkc hcl ⟨_, I.kIn _ _ hcell, rfl⟩ ?_
    refine wpAny_loadName_local hk hkl hns hself ?_
    obtain ⟨hh, g, d, tk, os⟩ := s
    refine ks_wpAny_isType_cls hC rfl ⟨rfl, ?_⟩
    refine ks_wpAny_call_super hC rfl ho rfl (fun c z => by cases z) (PySem.W.looks_mroIn I.kIn T.self_) fun h1 hso k1 => ?_
    have I1 : Inv X [(hh.objs.size, PySem.W.ks_superObj C a C)] σ H ⟨h1, g, d, tk, os⟩ := ClX.pin_new (s := ⟨hh, g, d, tk, os⟩) (t' := tk) I (fun b o z => k1 b o z) (Nat.le_refl _) hso (fun v z => nomatch z)
    have hso1 := ClX.pin_at I1
    have hI : PySem.W.Looks (model X.prog X.w) h1 (isInstance (.ref a) (.type "ValueError")) true := by
      obtain ⟨t2, ho2⟩ := exo_at I1.hok e
      exact (PySem.W.InstAt.type (od := none) ⟨ho2, rfl, rfl, trivial⟩).andThen (PySem.W.looks_subIn I1.kIn T.sub)
    have hmro : PySem.W.Looks (model X.prog X.w) h1 (mroOf (.ref C)) (.ref C :: bm) := fun A Q E s k q => wpAny_bind ((PySem.W.looks_clsIn I1.kIn hcd) A _ E s k (wpAny_pure q))
    have hsup := T.sup
    unfold PySem.W.ks_superIn at hsup
    rw [hcd] at hsup
    refine PySem.W.kxs_getMethod PySem.W.kxs_ValueError hso1 (PySem.W.looks_opaque I1.kIn T.stat) hmro rfl I1.kIn hsup hI ?_ (by decide) ?_
    · rintro rfl
      rw [ho] at hC; cases hC
    have I2 : Inv X [(h1.objs.size, PySem.W.kxs_mw VE a), (hh.objs.size, PySem.W.ks_superObj C a C)] σ H ⟨h1.push (PySem.W.kxs_mw VE a), g, d, tk + 1, os⟩ := ClX.pin_new (s := ⟨h1, g, d, tk, os⟩) (t' := tk + 1) I1 (fun b o z => Heap.get?_push_of_some _ z) (Nat.le_refl _) (Heap.get?_push_size _ rfl) (fun v z => nomatch z)
    have arg : PA X [.Constant (.str msg) kn p3] (tCons (tC (.str msg)) tNil) := pa_cons pe_str pa_nil
    have run := arg.run p4 _ _ σ H (fun vs H' => vs = [.str msg] ∧ H' = H) I2 ⟨rfl, rfl⟩
    show wpAny _ _ (callWith p4 (.ref h1.objs.size) [] ((false, eval (.Constant (.str msg) kn p3) X.env) :: backTo p4 (starEach [] X.env)) []) _ _ _
    refine PySem.W.kxs_callWith (i := VE) (x := a) (by rfl) (Calls.evalArgs_plain (thn run fun us s3 ⟨vs, H3, I3, rv, e1, e2⟩ => ?_))
    subst e1 e2
    refine ⟨ClX.pin_at I3, ?_⟩
    refine mw_call T.oex I3 (ClX.pin_at I3) e ?_ fun s4 I4 => h s4 (ClX.unpin (ClX.unpin I4))
    show us.length ≤ sizeLine
    rw [← Paired.length rv]
    exact (show 1 ≤ sizeLine by decide)
end
end TL
namespace TL
open PySem PySem.Spec PyProof.Rows L2
/-- the context of a method that says super(): its cells are the class's -/
def cxS (P : Program) (w : World) (K : PySem.W.Frag) (mg : Str → Option Value) (base : Heap) (N : List Str) (qual : Str) (scope : Scope) (f cda cc : Addr) (A : Around) (outer : List Env) (s : Shared) (H : Hp) : Cx where
  prog := P
  w := w
  K := K
  mg := mg
  base := base
  A := A.deeper (PySem.W.ksEnv qual scope s.heap.objs.size f (.ref cda) cc)
  N := N
  s_0 := s
  H_0 := H
  env := PySem.W.ksEnv qual scope s.heap.objs.size f (.ref cda) cc
  outer := outer
  stack := PySem.W.ksEnv qual scope s.heap.objs.size f (.ref cda) cc :: outer
  ex := []
  calm := true
  fn := fun x => x != "__class__"
  pn := []
  xe := fun _ _ => False
/-- the names of such a method -/
structure SupScope (N : List Str) (sc : Scope) : Prop where
  kind : sc.kind = .function
  co : sc.isCoroutine = false
  gen : sc.isGenerator = false
  nd : N.Nodup
  par : ∀ x ∈ N, sc.names.lookup x = some .local
  nocell : ∀ y ∈ sc.names, y.2 ≠ .cell
  free : ∀ y ∈ sc.names, y.2 = .free → y.1 = "__class__"
  sup : sc.names.lookup ("super" : Str) = some .globalImplicit
  cls : sc.names.lookup ("__class__" : Str) = some .free
section
variable {P : Program} {w : World} {K : PySem.W.Frag} {mg : Str → Option Value} {base : Heap} {N : List Str} {qual : Str} {scope : Scope} {f cda cc : Addr} {A : Around} {outer : List Env} {s : Shared} {H : Hp} {us : List Value} {vs : List V} {h0 : Heap} {tk : Nat}
theorem one_cell {x : Str} {c d : Addr} (h : List.lookup x [(("__class__" : Str), c)] = some d) : x = "__class__" ∧ d = c := by
  rw [List.lookup_cons] at h
  by_cases q : x = "__class__"
  · subst q
    rw [beq_self_eq_true] at h
    exact ⟨rfl, (Option.some.inj h).symm⟩
  · have hx : (x == ("__class__" : Str)) = false := by simpa using q
    rw [hx] at h; cases h
theorem inv_sup (S : SupScope N scope) (hd : A.handled = none) (e0 : Env0 P w K mg base A outer s H) (hcc : ∃ cl cld csl v, K.lookup cc = some ⟨cl, cld, .cell v, csl⟩) (hl : vs.length = N.length) (r : Vals vs us)
    (hns : h0.Ns s.heap.objs.size (fun x => (N.zip us).reverse.lookup x)) (k : ∀ b o, s.heap.get? b = some o → h0.get? b = some o) : Inv (cxS P w K mg base N qual scope f cda cc A outer s H) [] (L2.start N vs) H { s with heap := h0, toks := tk } := by
  obtain ⟨cl, cld, csl, cv, hcc⟩ := hcc
  have bc := e0.mod.kin _ _ hcc
  obtain ⟨sc1, sc2⟩ := e0.bs _ _ bc
  have noA : ∀ b : Addr, b ∉ ([] : List Addr) := fun b z => nomatch z
  refine ⟨⟨e0.mod, S.kind, rfl, rfl, Nat.le_refl _, fun y z c h1 h2 => ?_, fun y hy => ?_, fun y c hf h => ?_, fun _ => hd, Around.frames_deeper e0.frames, .inr ⟨rfl, rfl⟩, fun b z => absurd z (noA b), e0.bs, e0.bsz, fun b _ _ => noA b, fun b z => absurd z (noA b), e0.funs, e0.frf⟩,
    rfl, e0.bare, Un.kept k, ⟨_, hns, fun i y v h1 h2 h3 => ?_⟩, fun y c h => ?_, e0.hok.fresh (Nat.le_refl _), fun y c h => ?_, fun p hp => absurd (show p ∈ ([] : List (Addr × Obj)) from hp) (by simp), e0.hok.kept k, ?_⟩
  · exact (one_cell h1).1.trans (one_cell h2).1.symm
  · have hy : scope.names.lookup y = some .cell ∨ scope.names.lookup y = some .free := hy
    rcases hy with hy | hy
    · exact absurd rfl (S.nocell _ (PySem.mem_of_lookup hy))
    · have e := S.free _ (PySem.mem_of_lookup hy) rfl
      simp only at e
      subst e
      exact ⟨cc, by show List.lookup _ [(("__class__" : Str), cc)] = _; rw [List.lookup_cons, beq_self_eq_true]⟩
  · have e := (one_cell h).1
    subst e
    exact absurd hf (show ¬ (((("__class__" : Str)) != "__class__") = true) by decide)
  · have hi : i < vs.length := by
      rw [hl]
      exact (List.getElem?_eq_some_iff.mp h1).1
    have ha : vs[i]? = some v := by
      unfold L2.start at h2
      rw [List.getElem?_append_left (by simpa using hi), List.getElem?_map] at h2
      cases e : vs[i]? with
      | none => rw [e] at h2; cases h2
      | some a => rw [e] at h2; cases h2; rfl
    obtain ⟨u, hu, rv⟩ := r.get ha
    exact ⟨u, rv, .inl ⟨S.par y (List.mem_of_getElem? h1), NdefX.zip_look S.nd h1 hu⟩⟩
  · obtain ⟨_, rfl⟩ := one_cell h
    exact ⟨cv, _, k _ _ sc1, rfl⟩
  · obtain ⟨_, rfl⟩ := one_cell h
    exact sc2
  · unfold L2.start
    show _ = N.length
    rw [List.length_append, List.length_map, List.length_replicate]
    omega
end
end TL
namespace TL
open PySem PySem.Spec PyProof.Rows L2
section
variable {P : Program} {w : World} {K : PySem.W.Frag} {mg : Str → Option Value} {base : Heap} {N : List Str} {name qual : Str} {params : Arguments} {scope : Scope} {f C cda cc : Addr} {dV kV doc pm ct oc : Value} {an od : Option Addr} {osl : Array (Option Value)}
  {rest : List Stmt} {msg : Str} {kn k : Nat} {p0 p1 p2 p3 p4 p5 : Pos} {sp : Sp}
/-- THE RULE for an __init__ whose first row is super().__init__(".."): the rest is read in cxS -/
theorem fn_sup {pl : Env → Sem Bool} (T : SupC P K C cda cc) (S : SupScope N scope) (h0N : N[0]? = some ("self" : Str))
    (lk : K.lookup f = some ⟨oc, od, .func (PySem.W.ksFn name qual params (.Expr (.Call (.Attribute (.Call (.Name "super" p0) [] [] p1) "__init__" p2) [.Constant (.str msg) kn p3] [] p4) p5 :: rest) scope dV kV doc pm an (.ref cda) ct cc), osl⟩)
    (hcd : PySem.W.codeIn K (.ref cda) qual = true) (hp : ∃ an ap, (params.posonlyargs ++ params.args).head? = some ⟨"self", an, ap⟩) (htop : (P.main.scope.names.lookup ("super" : Str)).isSome = false) (hm : mg "super" = none)
    (he : ∀ env : Env, eval (.Call (.Attribute (.Call (.Name "super" p0) [] [] p1) "__init__" p2) [.Constant (.str msg) kn p3] [] p4) env = (do
      let ov ← attributeBase (.Call (.Name "super" p0) [] [] p1) "__init__" env (eval (.Call (.Name "super" p0) [] [] p1) env)
      standAt p2.atName
      let (f, first) ← holding [ov] (getMethod ov "__init__" (pl env))
      callWith p4 f first (backTo p4 (starEach [.Constant (.str msg) kn p3] env)) []))
    (len : ∀ vs H Q E, sp vs H Q E → vs.length = N.length) (hfirst : ∀ vs H Q E, sp vs H Q E → ∃ a ws, vs = .ref a :: ws ∧ H a = some (exo a C none))
    (hrest : ∀ (A : Around) (outer : List Env) (s : Shared) (H : Hp) (vs : List V) (Q : VK) (E : XK), sp vs H Q E → ∃ t, PSs (cxS P w K mg base N qual scope f cda cc A outer s H) rest t ∧ t { nx := fun _ H' => Q .non H', rt := Q } (L2.start N vs) H) :
    FnOk P w K mg base CX0 (k + 1) f (PySem.W.ksFn name qual params (.Expr (.Call (.Attribute (.Call (.Name "super" p0) [] [] p1) "__init__" p2) [.Constant (.str msg) kn p3] [] p4) p5 :: rest) scope dV kV doc pm an (.ref cda) ct cc) N sp := by
  refine ⟨len, fun A outer s H args us vs Q E hr e0 hb r hsp => ?_⟩
  have KX : K.In s.heap := e0.mod.kin.keeps fun b o e => (e0.bs b o e).1
  have lim : s.heap.NoLimit := e0.mod.nolimit.keeps fun b o e => (e0.bs b o e).1
  obtain ⟨a, ws, ev, hea⟩ := hfirst _ _ _ _ hsp
  obtain ⟨t, ht, hq⟩ := hrest A outer s H vs Q E hsp
  have hl := len _ _ _ _ hsp
  refine ks_codeAny_call_defAt hr.depth (KX _ _ lk) rfl lim (PySem.W.codeRec_of KX hcd) rfl hb S.nocell (fun y hy => S.par _ (List.of_mem_zip hy).1) (fun h0 hns k0 => ?_) S.co S.gen S.kind
  have I : Inv (cxS P w K mg base N qual scope f cda cc A outer s H) [] (L2.start N vs) H { s with heap := h0, toks := s.toks + (N.zip us).length } := inv_sup S hr.hd e0 (let ⟨cl, cld, csl, q⟩ := T.cell; ⟨cl, cld, csl, _, q⟩) hl r hns k0
  refine ks_wpAt_execs_cons ?_
  have hσ : (L2.start N vs)[0]? = some (some (.ref a)) := by rw [ev]; rfl
  refine PySem.wpAt_mono (super_ok (X := cxS P w K mg base N qual scope f cda cc A outer s H) (pl := pl _) (Q := fun fl s' => fl = .next ∧ Inv (cxS P w K mg base N qual scope f cda cc A outer s H) [] (L2.start N vs) H s') T I hea h0N hσ S.sup S.cls (S.par _ (List.mem_of_getElem? h0N)) (by show List.lookup _ [(("__class__" : Str), cc)] = _; rw [List.lookup_cons, beq_self_eq_true]) rfl rfl lk hp htop hm (fun s' J => ⟨rfl, J⟩) (he _)) (fun fl s1 hfl => ?_) fun e s1 z => z.elim
  obtain ⟨rfl, I1⟩ := hfl
  refine PySem.wpAt_of_wpAny (wpAny_mono (ht.run [] s1 (L2.start N vs) H _ I1 hq) (fun fl s' hs => ?_) fun e s' z => z.elim)
  cases fl with
  | ret u =>
    obtain ⟨v, σ', H', J, rv, q⟩ := hs
    exact ⟨v, H', J.os, J.bare, J.base, J.hok, rv, q⟩
  | next =>
    obtain ⟨σ', H', J, q⟩ := hs
    exact ⟨.non, H', J.os, J.bare, J.base, J.hok, rfl, q⟩
  | brk => obtain ⟨_, _, _, q⟩ := hs; exact q.elim
  | cont => obtain ⟨_, _, _, q⟩ := hs; exact q.elim
end
end TL
/-! own exceptions that store their parameters: the rows self.f = x, the maker, raise -/
namespace TL
open PySem PySem.Spec PyProof.Rows
open L2 hiding XE Takes CX MkP PMk ps_raise mk_of ps_try_as ps_try_many pmk_own passAt takes_of passes_call XE.new XE.of_call XE.leave Takes.imp Sky.land
open L2N hiding St
/-- the rows self.f = x, from slot i on -/
inductive FldS (N : List Str) : Nat → List Str → List Stmt → Prop
  | nil {i : Nat} : FldS N i [] []
  | cons {i : Nat} {x f : Str} {fs : List Str} {rest : List Stmt} {p1 p2 p3 p4 : Pos} (hx : N[i]? = some x) (hd : (x == ("__debug__" : Str)) = false) (hc : (x == ("__classdict__" : Str)) = false) (r : FldS N (i + 1) fs rest) :
      FldS N i (f :: fs) (.Assign [.Attribute (.Name "self" p1) f p2] (.Name x p3) p4 :: rest)
section
variable {X : Cx} {N : List Str} {i : Nat} {fs : List Str} {rest : List Stmt} {σ : L2.St} {H : Hp} {a C dx : Addr} {gs : List (Str × V)} {ws : List V} {D : Ends}
theorem upd_idem {o o' : HO} : upd (upd H dx o) dx o' = upd H dx o' := by
  funext b
  by_cases h : b = dx
  · subst h; rw [upd_same, upd_same]
  · rw [upd_ne h, upd_ne h, upd_ne h]
theorem upd_self {o : HO} (h : H dx = some o) : upd H dx o = H := by
  funext b
  by_cases q : b = dx
  · subst q; rw [upd_same, h]
  · rw [upd_ne q]
theorem upd_swap {o o' : HO} (n : a ≠ dx) : upd (upd H a o) dx o' = upd (upd H dx o') a o := by
  funext b
  by_cases h : b = dx
  · subst h; rw [upd_same, upd_ne (Ne.symm n), upd_same]
  · rw [upd_ne h]
    by_cases q : b = a
    · subst q; rw [upd_same, upd_same]
    · rw [upd_ne q, upd_ne q, upd_ne h]
theorem fld_old (hN : X.N = N) (h0 : N[0]? = some ("self" : Str)) (hv : ∀ x ∈ N, Vis X.env.scope x) (h : FldS N i fs rest) : ∃ t, PSs X rest t ∧ ∀ (σ : L2.St) (H : Hp) (a C dx : Addr) (gs : List (Str × V)) (ws : List V) (D : Ends), σ[0]? = some (some (.ref a)) → (∀ j w, ws[j]? = some w → σ[i + j]? = some (some w)) →
    ws.length = fs.length → gs.length + fs.length ≤ 900 → OexC X.K C → (∀ f ∈ fs, PySem.W.findIn X.K (.ref C) f = some none) → a ≠ dx → H a = some (exo a C (some dx)) → H dx = some (exd dx gs) → D.nx σ (upd H dx (exd dx ((fs.zip ws).reverse ++ gs))) → t D σ H := by
  induction h with
  | nil => exact ⟨_, pss_nil, fun σ H a C dx gs ws D _ _ hl _ _ _ _ _ ed q => by
      obtain rfl : ws = [] := List.length_eq_zero_iff.mp hl
      rw [show ((([] : List Str).zip ([] : List V)).reverse ++ gs) = gs from rfl, upd_self ed] at q
      exact q⟩
  | @cons i x f fs rest p1 p2 p3 p4 hx hd hc r ih =>
    obtain ⟨t, ht, hq⟩ := ih
    refine ⟨_, pss_cons (ps_ost (pe_var (i := 0) (by rw [hN]; exact h0) (hv _ (List.mem_of_getElem? h0))) (pe_var (i := i) (by rw [hN]; exact hx) (hv _ (List.mem_of_getElem? hx)) hd hc)) ht, fun σ H a C dx gs ws D s0 sl hl hn T ho hne ea ed q => ?_⟩
    cases ws with
    | nil => cases hl
    | cons w ws =>
      refine ⟨w, sl 0 w rfl, .ref a, s0, a, C, rfl, T, ho f (List.mem_cons_self ..), .inr ⟨dx, gs, ea, ed, by omega, ?_⟩⟩
      refine hq σ _ a C dx ((f, w) :: gs) ws D s0 (fun j v e => by rw [show i + 1 + j = i + (j + 1) by omega]; exact sl (j + 1) v e) (by simpa using hl) (by simp at hn ⊢; omega) T (fun g hg => ho g (List.mem_cons_of_mem _ hg)) hne (by rw [upd_ne hne]; exact ea) upd_same ?_
      rw [upd_idem]
      rw [show (((f :: fs).zip (w :: ws)).reverse ++ gs) = (fs.zip ws).reverse ++ ((f, w) :: gs) by simp] at q
      exact q
/-- all the rows, the exception without a dict ahead of them -/
theorem fld_new {f : Str} (hN : X.N = N) (h0 : N[0]? = some ("self" : Str)) (hv : ∀ x ∈ N, Vis X.env.scope x) (h : FldS N i (f :: fs) rest) : ∃ t, PSs X rest t ∧ ∀ (σ : L2.St) (H : Hp) (a C : Addr) (ws : List V) (D : Ends), σ[0]? = some (some (.ref a)) → (∀ j w, ws[j]? = some w → σ[i + j]? = some (some w)) →
    ws.length = (f :: fs).length → (f :: fs).length ≤ 900 → OexC X.K C → (∀ g ∈ f :: fs, PySem.W.findIn X.K (.ref C) g = some none) → H a = some (exo a C none) →
    (∀ dx, H dx = none → dx ≠ a → D.nx σ (upd (upd H dx (exd dx ((f :: fs).zip ws).reverse)) a (exo a C (some dx)))) → t D σ H := by
  cases h with
  | @cons _ x _ _ rest p1 p2 p3 p4 hx hd hc r =>
    obtain ⟨t, ht, hq⟩ := fld_old hN h0 hv r
    refine ⟨_, pss_cons (ps_ost (pe_var (i := 0) (by rw [hN]; exact h0) (hv _ (List.mem_of_getElem? h0))) (pe_var (i := i) (by rw [hN]; exact hx) (hv _ (List.mem_of_getElem? hx)) hd hc)) ht, fun σ H a C ws D s0 sl hl hn T ho ea q => ?_⟩
    cases ws with
    | nil => cases hl
    | cons w ws =>
      refine ⟨w, sl 0 w rfl, .ref a, s0, a, C, rfl, T, ho f (List.mem_cons_self ..), .inl ⟨ea, fun dx n ne => ?_⟩⟩
      refine hq σ _ a C dx [(f, w)] ws D s0 (fun j v e => by rw [show i + 1 + j = i + (j + 1) by omega]; exact sl (j + 1) v e) (by simpa using hl) (by simp at hn ⊢; omega) T (fun g hg => ho g (List.mem_cons_of_mem _ hg)) (Ne.symm ne) upd_same (by rw [upd_ne ne, upd_same]) ?_
      have z := q dx n ne
      rw [upd_swap (Ne.symm ne), upd_idem]
      rw [show (((f :: fs).zip (w :: ws)).reverse) = (fs.zip ws).reverse ++ [(f, w)] by simp] at z
      exact z
end
/-- such an __init__ -/
def spX (C : Addr) (fs : List Str) : Sp := fun vs H Q _ => ∃ a ws, vs = .ref a :: ws ∧ ws.length = fs.length ∧ H a = some (exo a C none) ∧ ∀ d, H d = none → d ≠ a → Q .non (upd (upd H d (exd d (fs.zip ws).reverse)) a (exo a C (some d)))
section
variable {P : Program} {w : World} {K : PySem.W.Frag} {mg : Str → Option Value} {base : Heap} {N : List Str} {name qual : Str} {params : Arguments} {scope : Scope} {f C cda cc : Addr} {dV kV doc pm ct oc : Value} {an od : Option Addr} {osl : Array (Option Value)}
  {rest : List Stmt} {msg : Str} {kn k : Nat} {p0 p1 p2 p3 p4 p5 : Pos} {g : Str} {fs : List Str}
theorem fn_supF {pl : Env → Sem Bool} (T : SupC P K C cda cc) (S : SupScope N scope) (h0N : N[0]? = some ("self" : Str))
    (lk : K.lookup f = some ⟨oc, od, .func (PySem.W.ksFn name qual params (.Expr (.Call (.Attribute (.Call (.Name "super" p0) [] [] p1) "__init__" p2) [.Constant (.str msg) kn p3] [] p4) p5 :: rest) scope dV kV doc pm an (.ref cda) ct cc), osl⟩)
    (hcd : PySem.W.codeIn K (.ref cda) qual = true) (hp : ∃ an ap, (params.posonlyargs ++ params.args).head? = some ⟨"self", an, ap⟩) (htop : (P.main.scope.names.lookup ("super" : Str)).isSome = false) (hm : mg "super" = none)
    (he : ∀ env : Env, eval (.Call (.Attribute (.Call (.Name "super" p0) [] [] p1) "__init__" p2) [.Constant (.str msg) kn p3] [] p4) env = (do
      let ov ← attributeBase (.Call (.Name "super" p0) [] [] p1) "__init__" env (eval (.Call (.Name "super" p0) [] [] p1) env)
      standAt p2.atName
      let (f, first) ← holding [ov] (getMethod ov "__init__" (pl env))
      callWith p4 f first (backTo p4 (starEach [.Constant (.str msg) kn p3] env)) []))
    (hr : FldS N 1 (g :: fs) rest) (hl : N.length = (g :: fs).length + 1) (hs : (g :: fs).length ≤ 900) (ho : ∀ f ∈ g :: fs, PySem.W.findIn K (.ref C) f = some none) :
    FnOk P w K mg base CX0 (k + 1) f (PySem.W.ksFn name qual params (.Expr (.Call (.Attribute (.Call (.Name "super" p0) [] [] p1) "__init__" p2) [.Constant (.str msg) kn p3] [] p4) p5 :: rest) scope dV kV doc pm an (.ref cda) ct cc) N (spX C (g :: fs)) := by
  refine fn_sup T S h0N lk hcd hp htop hm he (fun vs H Q E ⟨a, ws, e, l, _⟩ => by subst e; rw [List.length_cons, l, hl]) (fun vs H Q E ⟨a, ws, e, _, ea, _⟩ => ⟨a, ws, e, ea⟩) fun A outer s H vs Q E ⟨a, ws, e, l, ea, q⟩ => ?_
  obtain ⟨t, ht, hq⟩ := fld_new (X := cxS P w K mg base N qual scope f cda cc A outer s H) rfl h0N (fun x hx => .inl (S.par x hx)) hr
  refine ⟨t, ht, hq _ H a C ws _ ?_ (fun j v ev => ?_) l hs T.oex ho ea fun d n ne => q d n ne⟩
  · rw [e]; rfl
  · rw [e]
    unfold L2.start
    rw [List.map_cons, List.cons_append, Nat.add_comm, List.getElem?_cons_succ, List.getElem?_append_left (by rw [List.length_map]; exact (List.getElem?_eq_some_iff.mp ev).1), List.getElem?_map, ev]
    rfl
end
section
variable {X : Cx} {N : List Str} {sc : Scope} {e : Expr} {es : List Expr} {δ : Ds} {A : AH} {pos p p2 : Pos} {C fI : Addr} {k : Nat} {fd : FuncData} {ps fs : List Str} {x : Str} {ET : TXQ} {D : TEnds}
theorem del_upd {H1 : Hp} {a d : Addr} {o o' o2 : HO} {u : HO} (n : H1 a = none) (ne : d ≠ a) : upd (del (upd (upd (upd H1 a o) d o') a o2) a) d u = upd H1 d u := by
  funext b
  by_cases h : b = d
  · subst h; rw [upd_same, upd_same]
  · rw [upd_ne h, upd_ne h]
    by_cases q : b = a
    · subst q; rw [del_same, n]
    · rw [del_ne q, upd_ne q, upd_ne h, upd_ne q]
/-- C(e, ..) by C's own __init__; the new object's context is None -/
theorem pmk_oexN {sp : Sp} {ta : TA} (T : OexC X.K C) (iC : PySem.W.findIn X.K (.ref C) "__init__" = some (some (.ref fI))) (tI : PySem.W.typeIn X.K (.ref fI) = some (.type "function")) (F1 : FnOk X.prog X.w X.K X.mg X.base CX0 k fI fd ps sp) (hr : Room (k + 1) X.A) (hb : Binds X.K fd ps []) (hg : Gl X x) (hm : X.mg x = some (.ref C)) (ha : PA X (e :: es) ta)
    (hdb : (x == ("__debug__" : Str)) = false := by decide) (he : starEach (e :: es) X.env = (false, eval e X.env) :: starEach es X.env := by rfl) (hpl : (backTo pos (starEach es X.env)).any (·.1) = false := by rfl) : PMk X (.Call (.Name x p) (e :: es) [] pos) (tMkO C sp [] ta) := by
  intro pins s σ H Q I h
  obtain ⟨nm, q, N', bs, bm, sn, sub, ab, col, dd, k0, k1, k2, k3, k5, hC, hbm⟩ := T.cls
  refine wpAny_Call_Name_kw (ld_glob I hg hm ?_ hdb)
  refine PySem.W.callWith_K (h₀ := X.base) I.ok.mod.kin T.kC (thn (ha.run pos pins s σ H _ I h) fun us s1 ⟨vs, H1, I1, r1, hz, q1⟩ => ⟨I1.kIn, ?_⟩) he hpl
  show wpAny _ _ (call (.ref C) us) _ _ _
  obtain ⟨hp, g, dr, tk, os⟩ := s1
  have up := Nat.le_succ hp.objs.size
  have hn : H1 (hp.objs.size + 1) = none := I1.hok.fresh up
  have hq := q1 (hp.objs.size + 1) hn
  rw [List.append_nil] at hq
  have kk : ∀ b o, hp.get? b = some o → ((hp.push (PySem.W.kdv_tup us)).push (PySem.HandSPX.excO C hp.objs.size)).get? b = some o := fun b o e => Heap.get?_push_of_some _ (Heap.get?_push_of_some _ e)
  have new : ((hp.push (PySem.W.kdv_tup us)).push (PySem.HandSPX.excO C hp.objs.size)).get? (hp.objs.size + 1) = some (PySem.HandSPX.excO C hp.objs.size) := by heap_get
  have I2 : Inv X pins σ (upd H1 (hp.objs.size + 1) (exo (hp.objs.size + 1) C none)) ⟨(hp.push (PySem.W.kdv_tup us)).push (PySem.HandSPX.excO C hp.objs.size), g, dr, tk, os⟩ := I1.laid (t' := tk) kk up (exo_ok new)
  have rv : Vals (V.ref (hp.objs.size + 1) :: vs) (Value.ref (hp.objs.size + 1) :: us) := .cons rfl r1
  have hl : (Value.ref (hp.objs.size + 1) :: us).length = ps.length := by rw [← rv.length]; exact F1.len _ _ _ _ hq
  have hbd := hb _ (Value.ref (hp.objs.size + 1) :: us) I2.kIn (by rw [List.append_nil]; exact hl)
  rw [List.append_nil] at hbd
  refine wpAny_call (PySem.HandSPX.call_own F.excBase_ValueError (fun Y => PySem.HandSPX.refsVE_contains Y bm hbm) (I1.kIn _ _ hC) (PySem.W.looks_findIn I1.kIn iC) (fun self => PySem.W.bind_fn I1.kIn self tI) (by rw [← Paired.length r1, sizeLine_eq]; omega)
    (codeAny_mono (F1.run _ X.stack _ _ ⟨Value.ref (hp.objs.size + 1) :: us, []⟩ (Value.ref (hp.objs.size + 1) :: us) _ _ (fun _ _ _ => False) (hr.make C us []) (I2.env0.make C us []) hbd rv hq) fun r s' hq' => ?_))
  cases r with
  | error er => exact (show False from hq').elim
  | ok fl =>
    cases fl with
    | ret u =>
      obtain ⟨v, H2, os2, bare2, un2, hok2, rv, ev, d, gs, ea, ed, hd1, q2⟩ := hq'
      subst ev
      obtain ⟨h2, g2, d2, t2, os'⟩ := s'
      obtain ⟨t0, G, J, kG, ge, hoe, na⟩ := mk_end0 (d2 := d2) (t2 := t2) I1 up kk un2 hok2 os2 bare2 ea ed hd1
      exact ⟨rv, _, _, _, ⟨G, g2, d2, t2, os'⟩, _, .ref C, some d, rfl, J, kG, ge, hoe, ⟨rfl, rfl, fun vs e => by cases e; rfl⟩, rfl, rfl, na, rfl, bare2, raises_own T.exC T.tyC, q2⟩
    | next => exact False.elim hq'
    | brk => exact False.elim hq'
    | cont => exact False.elim hq'
/-- C(e, ..), C without an __init__ of its own -/
theorem pmk_ownN {bmB : List Value} {B newId initId : String} {t : TA} (F : ExcBaseFacts B newId initId bmB) (q : PySem.W.excIn X.K C bmB newId = true) (gC : X.mg x = some (.ref C)) (kC : PySem.W.keepIn X.K (.ref C) = true) (r : Raises X (.ref C)) (hg : Gl X x) (ha : PA X (e :: es) t) (hdb : (x == ("__debug__" : Str)) = false := by decide)
    (he : starEach (e :: es) X.env = (false, eval e X.env) :: starEach es X.env := by rfl) (hpl : (backTo pos (starEach es X.env)).any (·.1) = false := by rfl) : PMk X (.Call (.Name x p) (e :: es) [] pos) (fun σ H Q => t σ H fun vs H1 => vs.length ≤ sizeLine ∧ Q (.ref C) none H1) := by
  intro pins s σ H Q I h
  refine wpAny_Call_Name_kw (ld_glob I hg gC ?_ hdb)
  refine PySem.W.callWith_K (h₀ := X.base) I.ok.mod.kin kC (thn (ha.run pos pins s σ H _ I h) fun us s1 ⟨vs, H1, I1, r1, hz, q1⟩ => ⟨I1.kIn, ?_⟩) he hpl
  obtain ⟨bm, N', nm, qn, bs, hdct, sn, sub, ab, col, dd, k0, k1, k2, k3, k5, mN, hC, hN, hni, T⟩ := exc_obj I1.kIn q
  exact wpAny_call_exc_subT F T hC hN hni (fun h' e hm => mk_of I1 hm r q1 (I1.hok.gone hm.new)) (by show us.length ≤ sizeLine; rw [← r1.length]; exact hz)
/-- such an exception made -/
theorem pmk_sup (T : OexC X.K C) (iC : PySem.W.findIn X.K (.ref C) "__init__" = some (some (.ref fI))) (tI : PySem.W.typeIn X.K (.ref fI) = some (.type "function")) (F1 : FnOk X.prog X.w X.K X.mg X.base CX0 k fI fd ps (spX C fs)) (hr : Room (k + 1) X.A) (hb : Binds X.K fd ps []) (hs : fs.length ≤ 900)
    (hg : Gl X x) (hm : X.mg x = some (.ref C)) {t : TA} (ha : PA X (e :: es) t) (hmo : ∀ σ H (Q Q' : List V → Hp → Prop), (∀ vs H', Q vs H' → Q' vs H') → t σ H Q → t σ H Q') (hdb : (x == ("__debug__" : Str)) = false := by decide) (he : starEach (e :: es) X.env = (false, eval e X.env) :: starEach es X.env := by rfl) (hpl : (backTo pos (starEach es X.env)).any (·.1) = false := by rfl) :
    PMk X (.Call (.Name x p) (e :: es) [] pos) (fun σ H Q => t σ H fun vs H1 => vs.length = fs.length ∧ ∀ d, H1 d = none → Q (.ref C) (some d) (upd H1 d (.xd (fs.zip vs).reverse))) := by
  intro pins s σ H Q I h
  refine pmk_oexN T iC tI F1 hr hb hg hm ha hdb he hpl pins s σ H Q I ?_
  refine hmo σ H _ _ (fun vs H1 ⟨hl, q⟩ => ⟨by omega, fun a na => ⟨a, vs, by rw [List.append_nil], hl, upd_same, fun d nd ne => ⟨rfl, d, _, upd_same, by rw [upd_ne ne, upd_same], ?_, ?_⟩⟩⟩) h
  · rw [upd_ne ne] at nd; exact nd
  · rw [del_upd na ne]
    rw [upd_ne ne] at nd
    exact q d nd
theorem kvr_zip {K : PySem.W.Frag} {H : Hp} : ∀ (fs : List Str) {vs : List V} {ds : List TL.D}, Rps K H vs ds → KVr K H (fs.zip vs).reverse (fs.zip ds).reverse
  | [], _, _, _ => .nil
  | _ :: _, _, _, .nil => .nil
  | f :: fs, _, _, .cons r rs => by
    rw [List.zip_cons_cons, List.zip_cons_cons, List.reverse_cons, List.reverse_cons]
    exact Paired.app (kvr_zip fs rs) (.cons ⟨rfl, r⟩ .nil)
/-- raise C(e, ..), over trees -/
theorem wps_raise (hc : X.calm = true) (hx : TakesD X δ ET) (T : OexC X.K C) (iC : PySem.W.findIn X.K (.ref C) "__init__" = some (some (.ref fI))) (tI : PySem.W.typeIn X.K (.ref fI) = some (.type "function")) (F1 : FnOk X.prog X.w X.K X.mg X.base CX0 k fI fd ps (spX C fs)) (hr : Room (k + 1) X.A) (hb : Binds X.K fd ps []) (hs : fs.length ≤ 900)
    (hg : Gl X x) (hm : X.mg x = some (.ref C)) (h : WPA X (e :: es) δ A fun ds A1 => ds.length = fs.length ∧ ∃ A2, VwX A1 A2 ∧ ET (.ref C) (fs.zip ds).reverse A2)
    (hdb : (x == ("__debug__" : Str)) = false := by decide) (he : starEach (e :: es) X.env = (false, eval e X.env) :: starEach es X.env := by rfl) (hpl : (backTo pos (starEach es X.env)).any (·.1) = false := by rfl) :
    WPS X (.Raise (some (.Call (.Name x p) (e :: es) [] pos)) none p2) δ A D := fun σ H sl r => by
  refine runS.of (ps_raise hc hx (pmk_sup T iC tI F1 hr hb hs hg hm pa_run (fun σ H Q Q' k h => runA.mono h k) hdb he hpl)) (runA.mono (h σ H sl r) fun vs H1 ⟨ds, A1, k1, rp, hr1, hl, A2, vw, q⟩ => ?_)
  have hlv : vs.length = ds.length := Paired.length rp
  refine ⟨hlv.trans hl, fun d nd => ?_⟩
  have ek : ∀ b u, H1 b = some u → upd H1 d (.xd (fs.zip vs).reverse) b = some u := fun b u z => by
    rw [upd_ne (fun e => by rw [e, nd] at z; cases z)]; exact z
  have kk : Kp X.K H1 (upd H1 d (.xd (fs.zip vs).reverse)) := kp_ex ek
  exact ⟨sl.keep (k1.trans kk), _, A2, ⟨vw.no _ (hr1.free nd), vw.vd d _ (hr1.free nd) _ _ (hr1.new nd kk ek ⟨_, upd_same, kvr_zip fs (Rps.keep rp kk)⟩)⟩, q⟩
/-- raise C('..'), C without an __init__ of its own -/
theorem wps_raise0 {bmB : List Value} {B newId initId : String} (hc : X.calm = true) (hx : TakesD X δ ET) (F : ExcBaseFacts B newId initId bmB) (q : PySem.W.excIn X.K C bmB newId = true) (gC : X.mg x = some (.ref C)) (kC : PySem.W.keepIn X.K (.ref C) = true)
    (r1 : PySem.W.subIn X.K (.ref C) (.type "BaseException") = some true) (r2 : PySem.W.typeIn X.K (.ref C) = some (.type "type")) (hg : Gl X x) (h : WPA X (e :: es) δ A fun ds A1 => ds.length ≤ 900 ∧ ∃ A2, VwX A1 A2 ∧ ET (.ref C) [] A2)
    (hdb : (x == ("__debug__" : Str)) = false := by decide) (he : starEach (e :: es) X.env = (false, eval e X.env) :: starEach es X.env := by rfl) (hpl : (backTo pos (starEach es X.env)).any (·.1) = false := by rfl) :
    WPS X (.Raise (some (.Call (.Name x p) (e :: es) [] pos)) none p2) δ A D := fun σ H sl r => by
  refine runS.of (ps_raise hc hx (pmk_ownN F q gC kC (raises_own r1 r2) hg pa_run hdb he hpl)) (runA.mono (h σ H sl r) fun vs H1 ⟨ds, A1, k1, rp, hr1, hl, A2, vw, q⟩ => ?_)
  have hlv : vs.length = ds.length := Paired.length rp
  exact ⟨by rw [hlv, sizeLine_eq]; omega, sl.keep k1, [], A2, ⟨rfl, vw.v _ _ hr1⟩, q⟩
end
end TL
/-! try over trees -/
namespace TL
open PySem PySem.Spec PyProof.Rows
open L2 hiding XE Takes CX MkP PMk ps_raise mk_of ps_try_as ps_try_many pmk_own passAt takes_of passes_call XE.new XE.of_call XE.leave Takes.imp Sky.land
open L2N hiding St
/-- ends seen from the def's start: what stands behind a try -/
def WPB0 (X : Cx) (st : List Stmt) (δ : Ds) (A : AH) (D : TEnds) : Prop := ∀ σ H, Sl X.K H σ δ → HR X.K A H → runB X st (LE X.K X.H_0 D) σ H
def WPS0 (X : Cx) (st : Stmt) (δ : Ds) (A : AH) (D : TEnds) : Prop := ∀ σ H, Sl X.K H σ δ → HR X.K A H → runS X st (LE X.K X.H_0 D) σ H
section
variable {X : Cx} {N : List Str} {sc : Scope} {st : Stmt} {sts rest : List Stmt} {δ : Ds} {A : AH} {D : TEnds}
theorem WPB.to0 (h : WPB X sts δ A D) : WPB0 X sts δ A D := fun σ H sl r pins s I => thn (h σ H sl r pins s I) fun f s2 q =>
  SP.mono q (fun _ _ z => LN.from (kp_inv I) z) (fun _ _ z => LQ.from (kp_inv I) z) (fun _ _ z => LN.from (kp_inv I) z) (fun _ _ z => LN.from (kp_inv I) z)
theorem WPS.to0 (h : WPS X st δ A D) : WPS0 X st δ A D := fun σ H sl r pins s I => thn (h σ H sl r pins s I) fun f s2 q =>
  SP.mono q (fun _ _ z => LN.from (kp_inv I) z) (fun _ _ z => LQ.from (kp_inv I) z) (fun _ _ z => LN.from (kp_inv I) z) (fun _ _ z => LN.from (kp_inv I) z)
theorem wpb0_cons (h : WPS0 X st δ A { D with nx := fun δ1 A1 => WPB0 X rest δ1 A1 D }) : WPB0 X (st :: rest) δ A D := fun σ H s r =>
  runB.of (pss_cons ps_run pss_run) (runS.mono (h σ H s r) (fun σ1 H1 ⟨δ1, A1, k, sl, hr, q⟩ => q σ1 H1 sl hr) (fun _ _ z => z) (fun _ _ z => z) fun _ _ z => z)
theorem WPB0.vw {A' : AH} (v : Vw A A') (h : WPB0 X sts δ A' D) : WPB0 X sts δ A D := fun σ H s r => h σ H s (v _ _ r)
theorem WPS0.vw {A' : AH} (v : Vw A A') (h : WPS0 X st δ A' D) : WPS0 X st δ A D := fun σ H s r => h σ H s (v _ _ r)
theorem Sl.unset {K : PySem.W.Frag} {H : Hp} {σ : L2.St} {δ : Ds} (h : Sl K H σ δ) (i : Nat) : Sl K H (σ.set i none) (δ.set i none) := by
  refine ⟨by rw [List.length_set, List.length_set]; exact h.len, fun j e hj => ?_⟩
  by_cases q : j = i
  · subst q
    by_cases hl : j < δ.length
    · rw [List.getElem?_set_self hl] at hj; cases hj
    · rw [List.getElem?_eq_none (by rw [List.length_set]; omega)] at hj; cases hj
  · rw [List.getElem?_set_ne (Ne.symm q)] at hj
    obtain ⟨w, h1, h2⟩ := h.at_ j e hj
    exact ⟨w, by rw [List.getElem?_set_ne (Ne.symm q)]; exact h1, h2⟩
theorem BC.tr (B : BC X N sc) {pn : List (Addr × Obj)} {xe : Value → Shared → Prop} : BC (X.tr pn xe) N sc := ⟨B.n, B.nd, B.calm, B.vis, B.glo⟩
theorem SC.tr (B : SC X N sc) {pn : List (Addr × Obj)} {xe : Value → Shared → Prop} (po : PassesOwn (model X.prog X.w) X.A X.env xe) : SC (X.tr pn xe) N sc := ⟨B.toBC.tr, B.sc, B.fn, po⟩
/-- what an except suite sees of the exception -/
def AX (K : PySem.W.Frag) (A : AH) : Option Addr → List (Str × TL.D) → AH → Prop
  | none, fs, A1 => fs = [] ∧ A1 = A
  | some d, fs, A1 => A d = none ∧ A1 = updA A d (.prim (.xd fs))
theorem XF.ax {K : PySem.W.Frag} {H : Hp} {o : Option Addr} {fs : List (Str × TL.D)} (h : XF K H A o fs) : ∃ A1, AX K A o fs A1 ∧ HR K A1 H := by
  cases o with
  | none => exact ⟨A, ⟨h.1, rfl⟩, h.2⟩
  | some d => obtain ⟨h1, h3⟩ := h; exact ⟨_, ⟨h1, rfl⟩, h3⟩
/-- a clause: the class, the slot of its name, the suite -/
structure HdT where
  c : Value
  i : Option Nat
  st : List Stmt
def setD (a : Addr) : Option Nat → Ds → Ds
  | none, δ => δ
  | some i, δ => δ.set i (some (.ref a))
def endT : Option Nat → TEnds → TEnds
  | none, D => D
  | some i, D => { nx := fun δ A => D.nx (δ.set i none) A, rt := D.rt, bk := fun δ A => D.bk (δ.set i none) A, ct := fun δ A => D.ct (δ.set i none) A }
/-- what the clauses wish -/
def wHT (X : Cx) (ETo : TXQ) (δ : Ds) (D : TEnds) : List HdT → TXQ
  | [] => ETo
  | h :: r => fun cls fs A => ∃ b, PySem.W.exmOne X.K cls h.c = some b ∧
      (b = true → ∀ (a : Addr) (ox : Obj) (o : Option Addr) (pn : List (Addr × Obj)) (A1 : AH), Zn cls o ox → (∃ vs, ox.data = .fields vs) → AX X.K A o fs A1 → WPB0 (X.suite a ((a, ox) :: pn)) h.st (setD a h.i δ) A1 (endT h.i D)) ∧
      (b = false → wHT X ETo δ D r cls fs A)
/-- the clauses as they are written -/
inductive HdsT (X : Cx) : List ExceptHandler → List HdT → Prop
  | nil : HdsT X [] []
  | only {x : Str} {c : Value} {st₀ : Stmt} {st : List Stmt} {np hp : Pos} {hds : List ExceptHandler} {l : List HdT} (hc : Names X x c) (r : HdsT X hds l) :
      HdsT X (.ExceptHandler (some (.Name x np)) none (st₀ :: st) hp :: hds) (⟨c, none, st₀ :: st⟩ :: l)
  | as_ {x n : Str} {i : Nat} {c : Value} {st₀ : Stmt} {st : List Stmt} {np hp : Pos} {hds : List ExceptHandler} {l : List HdT} (hi : X.N[i]? = some n) (hln : X.env.kindOf n = some .local) (hc : Names X x c) (r : HdsT X hds l) :
      HdsT X (.ExceptHandler (some (.Name x np)) (some n) (st₀ :: st) hp :: hds) (⟨c, some i, st₀ :: st⟩ :: l)
def toHd (X : Cx) (h : HdT) : Hd := ⟨h.c, h.i, fun a cls o D σ H => ∀ (ox : Obj) (pn : List (Addr × Obj)), Zn cls o ox → (∃ vs, ox.data = .fields vs) → runB (X.suite a ((a, ox) :: pn)) h.st D σ H⟩
theorem suiteR {st : List Stmt} {c : Value} {i : Option Nat} : SuiteR X st (toHd X ⟨c, i, st⟩).ts := fun a ox cls o pn hz hf => ⟨fun pins s σ H D I h => h ox pn hz hf pins s I⟩
theorem HdsT.l {hds : List ExceptHandler} {l : List HdT} (h : HdsT X hds l) : HdsL X hds (l.map (toHd X)) := by
  induction h with
  | nil => exact .nil
  | only hc r ih => exact .only hc suiteR ih
  | as_ hi hln hc r ih => exact .as_ hi hln hc suiteR ih
theorem hds_of {ETo : TXQ} {σ : L2.St} {H : Hp} {cls : Value} {o : Option Addr} (k0 : Kp X.K X.H_0 H) (sl : Sl X.K H σ δ) : ∀ (l : List HdT), XT X.K (wHT X ETo δ D l) cls o H → wHds X.K (fun cls o σ H => Sl X.K H σ δ ∧ XT X.K ETo cls o H) (LE X.K X.H_0 D) (l.map (toHd X)) cls o σ H
  | [], h => ⟨sl, h⟩
  | h :: r, ⟨fs, A', xf, b, hb, hy, hn⟩ => by
    refine ⟨b, hb, fun e a na ox pn hz hf => ?_, fun e => hds_of k0 sl r ⟨fs, A', xf, hn e⟩⟩
    obtain ⟨A1, ax, hr⟩ := xf.ax
    have q := hy e a ox o pn A1 hz hf ax
    obtain ⟨c, i, st⟩ := h
    cases i with
    | none => exact q σ H sl hr
    | some i => exact runB.mono (q (σ.set i (some (.ref a))) H (sl.set i .ref) hr) (fun σ' H' ⟨δ', A', k, s', r', z⟩ => ⟨_, A', k, s'.unset i, r', z⟩) (fun _ _ z => z) (fun σ' H' ⟨δ', A', k, s', r', z⟩ => ⟨_, A', k, s'.unset i, r', z⟩) fun σ' H' ⟨δ', A', k, s', r', z⟩ => ⟨_, A', k, s'.unset i, r', z⟩
/-- THE RULE for try .. except .. -/
theorem wps0_try {body : List Stmt} {h₀ : ExceptHandler} {hds : List ExceptHandler} {l : List HdT} {pos : Pos} {ETo : TXQ} (hN : X.N.Nodup) (hs : X.stack = X.env :: X.outer) (hf : X.env.frame = some X.env.locals) (tk : TakesD X δ ETo)
    (hb : ∀ (pn : List (Addr × Obj)) (xe : Value → Shared → Prop), TakesD (X.tr pn xe) δ (wHT X ETo δ D l) → PassesOwn (model X.prog X.w) X.A X.env xe → WPB0 (X.tr pn xe) body δ A D) (hh : HdsT X (h₀ :: hds) l) : WPS0 X (.Try body (h₀ :: hds) [] [] pos) δ A D := fun σ H sl r => by
  refine runS.of (ps_tryL (tb := fun W D' σ H => ∀ pn xe, Takes (X.tr pn xe) W → PassesOwn (model X.prog X.w) X.A X.env xe → runB (X.tr pn xe) body D' σ H) hN hs hf tk (fun W pn xe t po => ⟨fun pins s σ H D I h => h pn xe t po pins s I⟩) hh.l) fun pn xe t po => ?_
  exact hb pn xe (fun u s' x => t u s' (xe_imp (fun cls o σ' H' pins sI I ⟨sl', q⟩ => hds_of (X := X) (kp_inv (X := X.tr pn xe) I) sl' l q) x)) po σ H sl r
end
/-! ### e.f in a suite -/
section
variable {X : Cx} {δ : Ds} {A A' : AH} {a C : Addr} {ox : Obj} {o : Option Addr} {pn : List (Addr × Obj)} {n f : Str} {i : Nat} {fs : List (Str × TL.D)} {y : TL.D} {p1 pos : Pos}
theorem ev_xf (T : XfC X.K C) (hno : PySem.W.findIn X.K (.ref C) f = some none) (hz : Zn (.ref C) o ox) (hf : ∃ vs, ox.data = .fields vs) (ax : AX X.K A' o fs A) (hl : fs.lookup f = some y)
    (hN : X.N[i]? = some n) (h : δ[i]? = some (some (.ref a))) (hv : Vis X.env.scope n) (hd : (n == ("__debug__" : Str)) = false := by decide) (hcd : (n == ("__classdict__" : Str)) = false := by decide) (hb : attributeBase (.Name n p1) f X.env (eval (.Name n p1) X.env) = eval (.Name n p1) X.env := by rfl) :
    Ev (X.suite a ((a, ox) :: pn)) (.Attribute (.Name n p1) f pos) δ A y := fun A1 sb Q q σ H sl r => by
  obtain ⟨v, h1, h2⟩ := sl.at_ i _ h
  cases h2
  cases o with
  | none => obtain ⟨rfl, _⟩ := ax; cases hl
  | some d =>
    obtain ⟨_, rfl⟩ := ax
    obtain ⟨gs, hm, kv⟩ : MOk X.K H d (.xd fs) := r.at_ (sb d _ updA_same)
    obtain ⟨w, l, rw_⟩ := kvr_some kv hl
    exact runE.of (pe_xf T hno hz.zc hf (pe_var (X := X.suite a ((a, ox) :: pn)) (i := i) hN hv hd hcd) hb) ⟨_, h1, rfl, rfl, d, gs, w, rfl, hm, l, y, A1, Kp.refl H, rw_, r, q⟩
end
end TL
/-! isinstance(e, X) in a suite -/
namespace TL
open PySem PySem.Spec PyProof.Rows
open L2 hiding XE Takes CX MkP PMk ps_raise mk_of ps_try_as ps_try_many pmk_own passAt takes_of passes_call XE.new XE.of_call XE.leave Takes.imp Sky.land
open L2N hiding St
def rIsX (K : PySem.W.Frag) (D a : Addr) (o : Option Addr) : List V → Hp → VK → Prop := fun xs H Q => ∃ (c : V) (cv : Value) (b : Bool), xs = [.ref a, c] ∧ (∀ u, RelV c u → u = cv) ∧ PySem.W.kitOne K (.ref D) cv = some b ∧ (∀ d, o = some d → ∃ fs, H d = some (.xd fs)) ∧ Q (.bl b) H
section
variable {X : Cx} {N : List Str} {sc : Scope} {δ : Ds} {A A' : AH} {a C : Addr} {ox : Obj} {o : Option Addr} {pn : List (Addr × Obj)} {n : Str} {i : Nat} {fs : List (Str × TL.D)} {p1 p2 p3 pos : Pos}
theorem cr_isX (T : ExcC X.K C) (hz : Zc (.ref C) o ox) (hf : ∃ vs, ox.data = .fields vs) : CallR (X.suite a ((a, ox) :: pn)) (.builtin "isinstance") (rIsX X.K C a o) := by
  intro pins s σ H xs us Q I r h
  obtain ⟨c, cv, b, rfl, hcv, e, ho, q⟩ := h
  obtain ⟨u0, us, rfl, rx, r⟩ : ∃ u0 us', us = u0 :: us' ∧ RelV (.ref a) u0 ∧ Vals [c] us' := by cases r with | cons rx rr => exact ⟨_, _, rfl, rx, rr⟩
  obtain ⟨u1, rfl, rt⟩ : ∃ u1, us = [u1] ∧ RelV c u1 := by
    cases r with
    | cons rt rr => cases rr; exact ⟨_, rfl, rt⟩
  obtain rfl : u0 = Value.ref a := rx
  obtain rfl := hcv _ rt
  obtain ⟨vs, hv⟩ := hf
  have hget := (I.pin (a, ox) (List.mem_append_left _ (List.mem_cons_self ..))).1
  have hcl : (PySem.W.clsIn X.K C).isSome = true := by
    obtain ⟨cd, hc, _⟩ := PySem.W.any_some T.hd
    rw [hc]; rfl
  obtain ⟨od, J⟩ : ∃ od, PySem.W.InstAt s.heap a ox C od := by
    cases o with
    | none => exact ⟨none, hget, hz.1, by unfold PySem.W.notCls; rw [hv] <;> rfl, by rw [hz.2]; exact True.intro⟩
    | some d =>
      obtain ⟨fs, hd⟩ := ho d rfl
      obtain ⟨mA, hns, _⟩ : ObjOk X.prog X.w H s.heap d (.xd fs) := I.hok d _ hd
      obtain ⟨od, e1, _⟩ := lookIn_ns hns
      exact ⟨some od, hget, hz.1, by unfold PySem.W.notCls; rw [hv] <;> rfl, by rw [hz.2]; exact e1⟩
  exact PySem.W.kia_one (PySem.W.kitx_exc hcl T.hg T.hk T.hs T.ha T.hn T.ht T.hm) I.kIn J e (fun z => nomatch z) fun tk => ⟨.bl b, H, I.kept (t' := tk) fun _ _ z => z, rfl, q⟩
/-- isinstance(e, ValueError), or another built-in class -/
theorem ev_isX {cn : Str} {cv : String} {b : Bool} (T : ExcC X.K C) (hz : Zn (.ref C) o ox) (hf : ∃ vs, ox.data = .fields vs) (ax : AX X.K A' o fs A) (hk : PySem.W.kitOne X.K (.ref C) (.type cv) = some b)
    (B : BC X N sc) (hg : sc.names.lookup ("isinstance" : Str) = some .globalImplicit) (hm : X.mg "isinstance" = none) (hg2 : sc.names.lookup cn = some .globalImplicit) (hm2 : X.mg cn = none) (hv2 : bootBuiltins cn = some (.type cv))
    (hN : X.N[i]? = some n) (h : δ[i]? = some (some (.ref a))) (hv : Vis X.env.scope n) (hd : (n == ("__debug__" : Str)) = false := by decide) (hcd : (n == ("__classdict__" : Str)) = false := by decide) (hd2 : (cn == ("__debug__" : Str)) = false := by decide) (hn2 : cn ≠ "__name__" := by decide)
    (he : starEach [Expr.Name n p1, Expr.Name cn p2] X.env = (false, eval (.Name n p1) X.env) :: starEach [Expr.Name cn p2] X.env := by rfl) (hpl : (backTo pos (starEach [Expr.Name cn p2] X.env)).any (·.1) = false := by rfl) :
    Ev (X.suite a ((a, ox) :: pn)) (.Call (.Name "isinstance" p3) [.Name n p1, .Name cn p2] [] pos) δ A (.bl b) := fun A1 sb Q q σ H sl r => by
  obtain ⟨v, h1, h2⟩ := sl.at_ i _ h
  cases h2
  refine runE.of (pe_callB (X := X.suite a ((a, ox) :: pn)) (cr_isX (pn := pn) T hz.zc hf) (B.gl hg) hm bt_isinstance (pa_cons (pe_var (X := X.suite a ((a, ox) :: pn)) (i := i) hN hv hd hcd) (pa_cons (pe_bltn (X := X.suite a ((a, ox) :: pn)) (v := .ty cv) (B.gl hg2) hm2 hv2 rfl hn2 hd2) pa_nil)) (by decide) (by decide) he hpl) ?_
  refine ⟨_, h1, .ty cv, .type cv, b, rfl, fun u e => e, hk, fun d e => ?_, .bl b, A1, Kp.refl H, .bl, r, q⟩
  subst e
  obtain ⟨_, rfl⟩ := ax
  obtain ⟨gs, hm, _⟩ : MOk X.K H d (.xd fs) := r.at_ (sb d _ updA_same)
  exact ⟨gs, hm⟩
end
end TL
/-! The tree layer: the end, and a hook with facts of one's own. -/
namespace TL
open PySem PySem.Spec PyProof.Rows
open L2 hiding XE Takes CX MkP PMk ps_raise mk_of ps_try_as ps_try_many pmk_own passAt takes_of passes_call XE.new XE.of_call XE.leave Takes.imp Sky.land
open L2N hiding St

section
variable {P : Program} {w : World} {K : PySem.W.Frag} {mg : Str → Option Value} {base : Heap} {N : List Str} {name qual : Str} {params : Arguments} {body : List Stmt} {scope : Scope} {f : Addr} {fd : FuncData} {ps : List Str} {k : Nat} {tp : TSp}
theorem fn_ok (Fd : FunD K name qual params body scope [] [] f fd) (S : FnScope N ps scope) (len : ∀ ds A Q E, tp ds A Q E → ds.length = ps.length) (hbody : BodyT P w K mg base N scope k body tp) : FnOk P w K mg base (L2N.CX P w) (k + 1) f fd ps (liftSp K tp) :=
  Fd.ok S (fun vs H Q E z => let ⟨ds, A, QT, ET, rp, _, ht, _⟩ := z; (Paired.length rp).trans (len ds A QT ET ht)) fun cdv A0 outer s H vs Q E hr hsp => body_of S hbody hr hsp
/-- nothing is let out -/
theorem ok_plain {sp : Sp} (F : FnOk P w K mg base (L2N.CX P w) k f fd ps sp) : FnOk P w K mg base CX0 k f fd ps (fun vs H Q _ => sp vs H Q fun _ _ _ => False) where
  len := fun vs H Q _ h => F.len vs H Q _ h
  run := fun A outer s H args us vs Q E hr e0 hb rv hsp => codeAny_mono (F.run A outer s H args us vs Q _ hr e0 hb rv hsp) fun r s' hq => by
    cases r with
    | ok fl =>
      cases fl with
      | ret u => exact hq
      | next => exact False.elim hq
      | brk => exact False.elim hq
      | cont => exact False.elim hq
    | error e =>
      obtain ⟨_, _, _, _, _, _, _, _, _, _, _, _, z⟩ := hq
      exact z.elim
end
theorem hr_single {K : PySem.W.Frag} {H : Hp} {a : Addr} {o : MO} (m : MOk K H a o) : HR K (updA (fun _ => none) a (.prim o)) H := by
  have at_ : ∀ b, (updA (fun _ => none) a (.prim o) b).isSome = true → b = a := fun b h => by
    by_cases z : b = a
    · exact z
    · rw [updA_ne z] at h; cases h
  refine ⟨fun b => one b o, fun b u h => ?_, fun b c x u hb hc hne _ => absurd ((at_ b hb).trans (at_ c hc).symm) hne, fun b x u hb hx => ?_⟩
  · have e := at_ b (isSome_of h)
    subst e
    rw [updA_same] at h; cases h
    exact rfl
  · have e := at_ b hb
    subst e
    obtain ⟨rfl, rfl⟩ := one_at hx
    exact m
theorem hr_empty {K : PySem.W.Frag} {H : Hp} : HR K (fun _ => none) H := ⟨fun _ _ => none, fun _ _ h => (nomatch h), fun _ _ _ _ h => (nomatch h), fun _ _ _ h => (nomatch h)⟩
theorem rps_ints {K : PySem.W.Frag} {H : Hp} : ∀ ns : List Int, Rps K H (ns.map V.int) (ns.map TL.D.int)
  | [] => .nil
  | _ :: r => .cons .int (rps_ints r)
/-- the script, as it stands at the law's call -/
theorem script_rd {K : PySem.W.Frag} {H : Hp} {a : Addr} {ns : List Int} (h : SqL K H a (ns.map V.int)) : ∃ A, HR K A H ∧ RdL K A a (ns.map .int) := by
  rcases h with (h | ⟨o, h⟩) | h
  · exact ⟨_, hr_single (o := .lst (ns.map .int)) ⟨_, h, rps_ints ns⟩, .inl updA_same⟩
  · exact ⟨_, hr_single (o := .ro (ns.map .int)) ⟨_, o, h, rps_ints ns⟩, .inr (.inl updA_same)⟩
  · exact ⟨_, hr_empty, .inr (.inr ⟨_, fun _ => .inr h, fun _ => rps_ints ns⟩)⟩

/-! ### a hook with own facts -/
abbrev Chk := PySem.W.Frag → Bool
/-- a function as it is seen, the cells of its closure left out -/
def fnSeen (K : PySem.W.Frag) (a : Addr) : He.FnW := (K.lookup a).bind fun o => match o.data with
  | .func d => some (d.name, d.qualname, d.params, d.body, d.scope, d.globals, d.closure.map (fun q => (q.1, (0 : Addr))), d.builtins)
  | _ => none
def fnSound (qual : Str) (p : PySem.W.Frag → Addr) : Chk := fun K => PySem.W.keepIn K (.ref (p K)) && (match K.lookup (p K) with
  | some ⟨_, _, .func d, _⟩ => PySem.W.codeIn K d.code qual && (He.dflB K d.defaults [] && He.kwdB K d.kwdefaults [])
  | _ => false)
theorem funD_seen {K : PySem.W.Frag} {p : PySem.W.Frag → Addr} {name qual : Str} {params : Arguments} {body : List Stmt} {scope : Scope} (e : fnSeen K (p K) = some (name, qual, params, .stmts body, scope, mainGlobals, [], builtinsNs)) (c : fnSound qual p K = true) :
    ∃ fd, FunD K name qual params body scope [] [] (p K) fd := by
  obtain ⟨kp, c2⟩ := Bool.and_eq_true_iff.mp c
  unfold fnSeen at e
  cases q : K.lookup (p K) with
  | none => rw [q] at e; cases e
  | some o =>
    obtain ⟨oc, od, dt, osl⟩ := o
    rw [q] at e c2
    cases dt with
    | func d =>
      obtain ⟨n1, n2, n3, n4, n5, n6, n7, n8, n9, n10, n11, n12, n13, n14, n15⟩ := d
      have e2 := Option.some.inj (show (some (n1, n2, n3, n4, n5, n6, n7.map (fun q => (q.1, (0 : Addr))), n15) : He.FnW) = _ from e)
      simp only [Prod.mk.injEq] at e2
      obtain ⟨rfl, rfl, rfl, rfl, rfl, rfl, e7, rfl⟩ := e2
      obtain rfl := List.map_eq_nil_iff.mp e7
      obtain ⟨k1, k2⟩ := Bool.and_eq_true_iff.mp (show (PySem.W.codeIn K n13 n2 && (He.dflB K n8 [] && He.kwdB K n9 [])) = true from c2)
      obtain ⟨k3, k4⟩ := Bool.and_eq_true_iff.mp k2
      exact ⟨_, ⟨oc, od, n8, n9, n10, n11, n12, n13, n14, osl, rfl, q, k1, He.dflB_ok k3, He.kwdB_ok k4⟩, kp⟩
    | _ => cases e
abbrev ObX : Type := He.AlD × Bool × List He.FnW
def obX (fa : List He.Fa) (fn : List He.DefD) (ck : List Chk) (px : List (PySem.W.Frag → Addr)) (K : PySem.W.Frag) : ObX := (He.obsD fa fn K, ck.all (fun c => c K), px.map fun p => fnSeen K (p K))
/-- what an object names, as far as the facts need it -/
def refsX (o : Obj) : List Addr := match o.data with
  | .seq its _ => its.toList.flatMap He.refV
  | .dict es _ => es.toList.flatMap fun e => He.refV e.val
  | .func fd => He.refV fd.code ++ He.refV fd.defaults ++ He.refV fd.kwdefaults ++ fd.closure.map (·.2)
  | .cls cd => [cd.ns]
  | .fields vs => vs.toList.flatMap He.refV
  | _ => []
def goX (g : Addr → Option Obj) : Nat → List Addr → List Addr
  | 0, as => as
  | n + 1, as => as ++ goX g n (as.flatMap fun a => match g a with
    | some o => refsX o
    | none => [])
def frX (n : Nat) (g : Addr → Option Obj) : PySem.W.Frag := He.frG g (goX g n [mainGlobals] ++ [cStatics])
def obXG (n : Nat) (fa : List He.Fa) (fn : List He.DefD) (ck : List Chk) (px : List (PySem.W.Frag → Addr)) (g : Addr → Option Obj) : ObX := obX fa fn ck px (frX n g)
def SaysX (fa : List He.Fa) (fn : List He.DefD) (ck : List Chk) (px : List (PySem.W.Frag → Addr)) (vx : List He.FnW) (K : PySem.W.Frag) : Prop := obX fa fn ck px K = (He.valD fn, true, vx)
def hookX (n : Nat) (fa : List He.Fa) (fn : List He.DefD) (ck : List Chk) (px : List (PySem.W.Frag → Addr)) (vx : List He.FnW) : PySem.W.Hook where
  α := ObX
  obs := fun s => obXG n fa fn ck px s.heap.get?
  val := fun _ => (He.valD fn, true, vx)
  says := fun _ h => ∃ K : PySem.W.Frag, K.In h ∧ SaysX fa fn ck px vx K
  of := fun _ _ e => ⟨_, He.frG_in, e⟩
  keeps := fun _ _ _ ⟨K, hK, c⟩ k => ⟨K, hK.keeps k, c⟩
theorem obXG_eq {n : Nat} {fa : List He.Fa} {fn : List He.DefD} {ck : List Chk} {px : List (PySem.W.Frag → Addr)} {vx : List He.FnW} {g : Addr → Option Obj} {s : Shared} (h : ∀ a, g a = s.heap.get? a) : obXG n fa fn ck px g = (hookX n fa fn ck px vx).obs s := by
  have e : g = s.heap.get? := funext h
  rw [e]; rfl
section
variable {fa : List He.Fa} {fn : List He.DefD} {ck : List Chk} {px : List (PySem.W.Frag → Addr)} {vx : List He.FnW} {K : PySem.W.Frag}
theorem SaysX.d (c : SaysX fa fn ck px vx K) : He.SaysD fa fn K := congrArg (fun z : ObX => z.1) c
theorem SaysX.chk (c : SaysX fa fn ck px vx K) (i : Nat) {k : Chk} (h : ck[i]? = some k := by rfl) : k K = true :=
  List.all_eq_true.mp (show ck.all (fun c => c K) = true from congrArg (fun z : ObX => z.2.1) c) k (List.mem_of_getElem? h)
theorem SaysX.fnx (c : SaysX fa fn ck px vx K) (i : Nat) {p : PySem.W.Frag → Addr} {v : He.FnW} (h : px[i]? = some p := by rfl) (hv : vx[i]? = some v := by rfl) : fnSeen K (p K) = v := by
  have e : px.map (fun p => fnSeen K (p K)) = vx := congrArg (fun z : ObX => z.2.2) c
  have e2 : (px.map fun p => fnSeen K (p K))[i]? = vx[i]? := by rw [e]
  rw [List.getElem?_map, h, hv] at e2
  exact Option.some.inj e2
end
/-! ### own facts: properties, a class's constant -/
def prA (C f : Str) (K : PySem.W.Frag) : Addr := He.ma K (He.ga K C) f
def prG (C f : Str) (K : PySem.W.Frag) : Addr := match PySem.W.recIn K (prA C f K) "property" with
  | some (.ref g :: _) => g
  | _ => 0
def ckProp (C f : Str) : Chk := fun K => He.eqO (PySem.W.findIn K (.ref (He.ga K C)) f) (some (some (.ref (prA C f K)))) && (He.eqO (PySem.W.specialIn K (.ref (prA C f K)) "__get__") (some (some (.builtin "property.__get__"))) && (decide (PySem.W.takesIn K (.ref (prA C f K)) = some true) &&
  (match PySem.W.recIn K (prA C f K) "property" with
  | some (.ref g :: _) => true
  | _ => false)))
theorem ckProp_ok {C f : Str} {K : PySem.W.Frag} (c : ckProp C f K = true) : PropOf K (He.ga K C) f (prA C f K) (prG C f K) := by
  obtain ⟨c1, c⟩ := Bool.and_eq_true_iff.mp c
  obtain ⟨c2, c⟩ := Bool.and_eq_true_iff.mp c
  obtain ⟨c3, c4⟩ := Bool.and_eq_true_iff.mp c
  refine ⟨He.eqO_ok c1, He.eqO_ok c2, of_decide_eq_true c3, ?_⟩
  unfold prG
  split at c4
  · rename_i g r e
    rw [e]
    exact ⟨r, rfl⟩
  · cases c4
def ckInt (C f : Str) (i : Int) : Chk := fun K => PySem.W.readsIn K (He.ga K C) (.type "type") && (He.eqO (PySem.W.specialIn K (.ref (He.ga K C)) "__getattribute__") (some (some (.builtin "type.__getattribute__"))) &&
  (match PySem.W.findCls K (.ref (He.ga K C)) (.type "type") f with
  | some (.val (.int j _)) => decide (j = i)
  | _ => false))
theorem ckInt_ok {C f : Str} {i : Int} {K : PySem.W.Frag} (c : ckInt C f i K = true) : ∃ mc u, ClX.CRead K (He.ga K C) mc ∧ ClX.CVal K (He.ga K C) mc f (.int i) u := by
  obtain ⟨c1, c⟩ := Bool.and_eq_true_iff.mp c
  obtain ⟨c2, c3⟩ := Bool.and_eq_true_iff.mp c
  split at c3
  · rename_i j t e
    have ej := of_decide_eq_true c3
    subst ej
    exact ⟨.type "type", .int j t, ⟨c1, He.eqO_ok c2⟩, ⟨e, ⟨_, rfl⟩⟩⟩
  · cases c3
def ckSeq (C : Str) : Chk := fun K => PySem.W.noSeq K (He.ga K C)
def ckFn (C m : Str) : Chk := fun K => PySem.W.fnIn K (He.ma K (He.ga K C) m)
end TL
/-! what a hook asks of an own exception class, and what that gives -/
namespace TL
open PySem PySem.Spec PyProof.Rows L2
/-- the class's object -/
def oexO (C : Addr) (o : Obj) : Bool := match o.data with
  | .cls cd => (match cd.mro with
    | .ref c :: r => decide (c = C) && PySem.HandSPX.refsVE r
    | _ => false) && (cd.hasDict && (cd.hasDel == false && (o.cls == .type "type" && (match o.slots.toList with
    | [_, _, _, _, some v, _] => v == .builtin "ValueError.__new__"
    | _ => false))))
  | _ => false
theorem oexO_ok {C : Addr} {o : Obj} (h : oexO C o = true) : ∃ nm q N bs bm sn sub ab col dd k0 k1 k2 k3 k5, o = excClassObj nm q C N bs bm true sn sub ab col dd k0 k1 k2 k3 k5 "ValueError.__new__" ∧ PySem.HandSPX.refsVE bm = true := by
  obtain ⟨oc, od, dt, sl⟩ := o
  unfold oexO at h
  cases dt with
  | cls cd =>
    obtain ⟨nm, bs, mro, ns, qn, hd, sn, sub, ab, col, dl⟩ := cd
    obtain ⟨h1, h⟩ := Bool.and_eq_true_iff.mp h
    obtain ⟨h2, h⟩ := Bool.and_eq_true_iff.mp h
    obtain ⟨h3, h⟩ := Bool.and_eq_true_iff.mp h
    obtain ⟨h4, h5⟩ := Bool.and_eq_true_iff.mp h
    dsimp only at h1 h2 h3 h4 h5
    subst h2
    have h3 := eq_of_beq h3
    subst h3
    have h4 := eq_of_beq h4
    subst h4
    cases mro with
    | nil => cases h1
    | cons m0 r =>
      cases m0 with
      | ref c =>
        obtain ⟨h6, h7⟩ := Bool.and_eq_true_iff.mp h1
        have h6 := of_decide_eq_true h6
        subst h6
        obtain ⟨l⟩ := sl
        have key : ∃ k0 k1 k2 k3 k5, l = [k0, k1, k2, k3, some (.builtin "ValueError.__new__"), k5] := by
          dsimp only at h5
          split at h5
          · have h8 := eq_of_beq h5
            subst h8
            exact ⟨_, _, _, _, _, rfl⟩
          · cases h5
        obtain ⟨k0, k1, k2, k3, k5, rfl⟩ := key
        exact ⟨nm, qn, ns, bs, r, sn, sub, ab, col, od, k0, k1, k2, k3, k5, rfl, h7⟩
      | _ => cases h1
  | _ => cases h
def oexB (K : PySem.W.Frag) (C : Addr) : Bool := (K.lookup C).any (oexO C) && (He.eqO (PySem.W.findIn K (.ref C) "__setattr__") (some (some (.builtin "object.__setattr__"))) && (decide (PySem.W.subIn K (.ref C) (.type "BaseException") = some true) && (decide (PySem.W.typeIn K (.ref C) = some (.type "type")) && PySem.W.keepIn K (.ref C))))
theorem oexB_ok {K : PySem.W.Frag} {C : Addr} (h : oexB K C = true) : OexC K C := by
  obtain ⟨h1, h⟩ := Bool.and_eq_true_iff.mp h
  obtain ⟨h2, h⟩ := Bool.and_eq_true_iff.mp h
  obtain ⟨h3, h⟩ := Bool.and_eq_true_iff.mp h
  obtain ⟨h4, h5⟩ := Bool.and_eq_true_iff.mp h
  refine ⟨?_, He.eqO_ok h2, of_decide_eq_true h3, of_decide_eq_true h4, h5⟩
  obtain ⟨o, e, q⟩ := PySem.W.any_some h1
  obtain ⟨nm, q, N, bs, bm, sn, sub, ab, col, dd, k0, k1, k2, k3, k5, eo, hb⟩ := oexO_ok q
  exact ⟨nm, q, N, bs, bm, sn, sub, ab, col, dd, k0, k1, k2, k3, k5, by rw [e, eo], hb⟩
/-- isinstance on its instances -/
def excB (K : PySem.W.Frag) (D : Addr) : Bool := xfB K D && (He.eqO (PySem.W.findIn K (.ref D) "__class__") (some (some (.builtin "object.__class__"))) && (He.eqO (PySem.W.specialIn K (.builtin "object.__class__") "__get__") (some (some (.builtin "getset_descriptor.__get__"))) &&
  (decide (PySem.W.takesIn K (.builtin "object.__class__") = some true) && decide (PySem.W.mroIn K D (.type "object") = some true))))
theorem excB_ok {K : PySem.W.Frag} {D : Addr} (h : excB K D = true) : ExcC K D := by
  obtain ⟨h1, h⟩ := Bool.and_eq_true_iff.mp h
  obtain ⟨h2, h⟩ := Bool.and_eq_true_iff.mp h
  obtain ⟨h3, h⟩ := Bool.and_eq_true_iff.mp h
  obtain ⟨h4, h5⟩ := Bool.and_eq_true_iff.mp h
  have x := xfB_ok h1
  exact ⟨x.ga, x.gg, x.exC, x.hdC, He.eqO_ok h2, He.eqO_ok h3, of_decide_eq_true h4, of_decide_eq_true h5⟩
/-- the code's and the cell's address of an __init__ -/
def inA (x : Str) (K : PySem.W.Frag) : Addr := He.ma K (He.ga K x) "__init__"
def inF (x : Str) (K : PySem.W.Frag) : Option FuncData := (K.lookup (inA x K)).bind fun o => match o.data with
  | .func d => some d
  | _ => none
def inC (x : Str) (K : PySem.W.Frag) : Addr := match inF x K with
  | some d => (match d.code with
    | .ref c => c
    | _ => 0)
  | none => 0
def inK (x : Str) (K : PySem.W.Frag) : Addr := match inF x K with
  | some d => (match d.closure with
    | p :: _ => p.2
    | [] => 0)
  | none => 0
def cellB (K : PySem.W.Frag) (cc C : Addr) : Bool := (K.lookup cc).any fun (o : Obj) => match o.data with
  | .cell (some v) => v == .ref C
  | _ => false
def fileB (K : PySem.W.Frag) (cda : Addr) (fl : Str) : Bool := (K.lookup cda).any fun (o : Obj) => match o.data with
  | .fields vs => (match vs[2]? with
    | some (Value.str t _) => fl == t
    | _ => false)
  | _ => false
def supB (fl x : Str) (K : PySem.W.Frag) : Bool := oexB K (He.ga K x) && (decide (PySem.W.subIn K (.ref (He.ga K x)) (.type "ValueError") = some true) && (decide (PySem.W.mroIn K (He.ga K x) (.ref (He.ga K x)) = some true) && (He.eqO (PySem.W.ks_superIn K (He.ga K x) (He.ga K x) "__init__") (some (some (.builtin VE))) &&
  (cellB K (inK x K) (He.ga K x) && (fileB K (inC x K) fl && decide (PySem.W.nsIn K cStatics "thirdparty.any" = some none))))))
theorem supB_ok {P : Program} {fl x : Str} {K : PySem.W.Frag} (hf : (P.main.file : Str) = fl) (h : supB fl x K = true) : SupC P K (He.ga K x) (inC x K) (inK x K) := by
  obtain ⟨h1, h⟩ := Bool.and_eq_true_iff.mp h
  obtain ⟨h2, h⟩ := Bool.and_eq_true_iff.mp h
  obtain ⟨h3, h⟩ := Bool.and_eq_true_iff.mp h
  obtain ⟨h4, h⟩ := Bool.and_eq_true_iff.mp h
  obtain ⟨h5, h⟩ := Bool.and_eq_true_iff.mp h
  obtain ⟨h6, h7⟩ := Bool.and_eq_true_iff.mp h
  refine ⟨oexB_ok h1, of_decide_eq_true h2, of_decide_eq_true h3, He.eqO_ok h4, ?_, ?_, of_decide_eq_true h7⟩
  · obtain ⟨⟨oc, od, dt, sl⟩, e, q⟩ := PySem.W.any_some h5
    cases dt with
    | cell v =>
      cases v with
      | none => cases q
      | some v =>
        have q := eq_of_beq (show (v == .ref (He.ga K x)) = true from q)
        subst q
        exact ⟨_, _, _, e⟩
    | _ => cases q
  · obtain ⟨⟨oc, od, dt, sl⟩, e, q⟩ := PySem.W.any_some h6
    cases dt with
    | fields vs =>
      dsimp only at q
      split at q
      · rename_i t tf e2
        exact ⟨_, _, _, _, t, tf, e, e2, by rw [hf]; exact q⟩
      · cases q
    | _ => cases q
end TL
/-! defs with try; own exceptions as facts -/
namespace TL
open PySem PySem.Spec PyProof.Rows
open L2 hiding XE Takes CX MkP PMk ps_raise mk_of ps_try_as ps_try_many pmk_own passAt takes_of passes_call XE.new XE.of_call XE.leave Takes.imp Sky.land
open L2N hiding St
section
variable {P : Program} {w : World} {K : PySem.W.Frag} {mg : Str → Option Value} {base : Heap} {N : List Str} {name qual : Str} {params : Arguments} {body : List Stmt} {scope : Scope} {f : Addr} {fd : FuncData} {ps : List Str} {k : Nat} {tp : TSp}
abbrev BodyT0 (P : Program) (w : World) (K : PySem.W.Frag) (mg : Str → Option Value) (base : Heap) (N : List Str) (scope : Scope) (k : Nat) (body : List Stmt) (tp : TSp) : Prop :=
  ∀ (X : Cx), Bd P w K mg base N scope k X → ∀ (ds : List TL.D) (A : AH) (Q : TQ) (ET : TXQ), TakesT X ET → tp ds A Q ET → WPB0 X body (startD N ds) A { nx := fun _ A' => RV Q .non A', rt := RV Q }
theorem BodyT.to0 (h : BodyT P w K mg base N scope k body tp) : BodyT0 P w K mg base N scope k body tp := fun X bd ds A Q ET t q => (h X bd ds A Q ET t q).to0
theorem body_of0 {cdv : Value} {A0 : Around} {outer : List Env} {s : Shared} {H : Hp} {vs : List V} {Q : VK} {E : XK} (S : FnScope N ps scope) (hbody : BodyT0 P w K mg base N scope k body tp) (hr : Room k (A0.deeper (envOfC qual scope s.heap.objs.size f cdv))) (hsp : liftSp K tp vs H Q E) :
    ∃ t, PSs (cxOf (L2N.CX P w) P w K mg base N qual scope f cdv A0 outer s H E) body t ∧ t { nx := fun _ H' => Q .non H', rt := Q } (L2.start N vs) H := by
  obtain ⟨ds, A, QT, ET, rp, hR, ht, hQ, hE⟩ := hsp
  refine ⟨runB (cxOf (L2N.CX P w) P w K mg base N qual scope f cdv A0 outer s H E) body, pss_run, ?_⟩
  have bd : Bd P w K mg base N scope k (cxOf (L2N.CX P w) P w K mg base N qual scope f cdv A0 outer s H E) := ⟨rfl, rfl, rfl, rfl, rfl, ⟨⟨rfl, S.nd, rfl, fun _ h => h, fun _ h => h⟩, rfl, fun _ => rfl, passes_of rfl⟩, hr, rfl, rfl⟩
  have tk : Takes (cxOf (L2N.CX P w) P w K mg base N qual scope f cdv A0 outer s H E) (fun cls d _ H => E cls d H) := takes_of rfl rfl rfl rfl
  have pt : TakesT (cxOf (L2N.CX P w) P w K mg base N qual scope f cdv A0 outer s H E) ET := fun u s' x =>
    tk u s' (xe_imp (fun cls o σ' H' pins sI I ⟨fs, A', xf, q⟩ => hE cls o H' ⟨fs, A', kp_inv I, xf, q⟩) x)
  refine runB.mono (hbody _ bd ds A QT ET pt ht (L2.start N vs) H (sl_start rp) hR) (fun σ' H' h => ?_) (fun v H' h => hQ v H' (RV.lq h)) (fun σ' H' ⟨_, _, _, _, _, q⟩ => q) fun σ' H' ⟨_, _, _, _, _, q⟩ => q
  obtain ⟨δ', A', k', _, hr', q⟩ := h
  exact hQ _ _ (RV.lq ⟨.non, A', k', .non, hr', q⟩)
/-- THE RULE for a def that tries -/
theorem fn_T0 (Fd : FunD K name qual params body scope [] [] f fd) (S : FnScope N ps scope) (hb : Binds K fd ps []) (len : ∀ ds A Q E, tp ds A Q E → ds.length = ps.length) (hbody : BodyT0 P w K mg base N scope k body tp) : FnT P w K mg base (k + 1) f tp := by
  have G : FnOk P w K mg base (L2N.CX P w) (k + 1) f fd ps (liftSp K tp) := Fd.ok S (fun vs H Q E ⟨ds, A, QT, ET, rp, _, ht, _⟩ => (Paired.length rp).trans (len ds A QT ET ht)) fun cdv A0 outer s H vs Q E hr hsp => body_of0 S hbody hr hsp
  refine FnR.imp (G.raw hb (dvs := []) .nil) fun vs H Q E h => ?_
  rw [List.append_nil]; exact h
end
/-! ### own exceptions as facts -/
def xB (fl x : Str) (fs : List Str) (qual : Str) : Chk := fun K => supB fl x K && (He.eqO (PySem.W.findIn K (.ref (He.ga K x)) "__init__") (some (some (.ref (inA x K)))) && (decide (PySem.W.typeIn K (.ref (inA x K)) = some (.type "function")) && (excB K (He.ga K x) && ((fs.all fun f => He.eqO (PySem.W.findIn K (.ref (He.ga K x)) f) (some none)) &&
  (match inF x K with
  | some d => PySem.W.codeIn K d.code qual && He.dflB K d.defaults []
  | none => false)))))
/-- what is known of an own exception class with the fields fs -/
structure Xc (P : Program) (w : World) (K : PySem.W.Frag) (mg : Str → Option Value) (base : Heap) (x : Str) (fs : List Str) : Prop where
  g : mg x = some (.ref (He.ga K x))
  oex : OexC K (He.ga K x)
  iC : PySem.W.findIn K (.ref (He.ga K x)) "__init__" = some (some (.ref (inA x K)))
  tI : PySem.W.typeIn K (.ref (inA x K)) = some (.type "function")
  F : ∃ fd ps, FnOk P w K mg base CX0 1 (inA x K) fd ps (spX (He.ga K x) fs) ∧ Binds K fd ps []
  nf : ∀ f ∈ fs, PySem.W.findIn K (.ref (He.ga K x)) f = some none
  xf : XfC K (He.ga K x)
  ex : ExcC K (He.ga K x)
  few : fs.length ≤ 900
theorem xB_ok {P : Program} {w : World} {K : PySem.W.Frag} {mg : Str → Option Value} {base : Heap} {fl x qual : Str} {fs fs' : List Str} {g : Str} {name : Str} {params : Arguments} {scope : Scope} {rest : List Stmt} {msg : Str} {kn : Nat} {p0 p1 p2 p3 p4 p5 : Pos} {N : List Str} {pl : Env → Sem Bool}
    (hf : (P.main.file : Str) = fl) (hg : mg x = some (.ref (He.ga K x))) (hfs : fs = g :: fs') (c : xB fl x fs qual K = true)
    (e : fnSeen K (inA x K) = some (name, qual, params, FuncBody.stmts (.Expr (.Call (.Attribute (.Call (.Name "super" p0) [] [] p1) "__init__" p2) [.Constant (.str msg) kn p3] [] p4) p5 :: rest), scope, mainGlobals, [(("__class__" : Str), (0 : Addr))], builtinsNs))
    (S : SupScope N scope) (h0N : N[0]? = some ("self" : Str)) (hp : ∃ an ap, (params.posonlyargs ++ params.args).head? = some ⟨"self", an, ap⟩) (htop : (P.main.scope.names.lookup ("super" : Str)).isSome = false) (hm : mg "super" = none)
    (he : ∀ env : Env, eval (.Call (.Attribute (.Call (.Name "super" p0) [] [] p1) "__init__" p2) [.Constant (.str msg) kn p3] [] p4) env = (do
      let ov ← attributeBase (.Call (.Name "super" p0) [] [] p1) "__init__" env (eval (.Call (.Name "super" p0) [] [] p1) env)
      standAt p2.atName
      let (f, first) ← holding [ov] (getMethod ov "__init__" (pl env))
      callWith p4 f first (backTo p4 (starEach [.Constant (.str msg) kn p3] env)) []))
    (hr : FldS N 1 fs rest) (hl : N.length = fs.length + 1) (hs : fs.length ≤ 900)
    (hb : ∀ (body : List Stmt) (kV doc pm : Value) (an : Option Addr) (cdv ct : Value) (cc : Addr) (us : List Value), us.length = N.length → bindArgs (PySem.W.ksFn name qual params body scope .none kV doc pm an cdv ct cc) ⟨us, []⟩ = pure (N.zip us)) : Xc P w K mg base x fs := by
  obtain ⟨c1, c⟩ := Bool.and_eq_true_iff.mp c
  obtain ⟨c2, c⟩ := Bool.and_eq_true_iff.mp c
  obtain ⟨c3, c⟩ := Bool.and_eq_true_iff.mp c
  obtain ⟨c4, c⟩ := Bool.and_eq_true_iff.mp c
  obtain ⟨c5, c6⟩ := Bool.and_eq_true_iff.mp c
  have T := supB_ok (P := P) hf c1
  have ex := excB_ok c4
  have nf : ∀ f ∈ fs, PySem.W.findIn K (.ref (He.ga K x)) f = some none := fun f hf => He.eqO_ok (List.all_eq_true.mp c5 f hf)
  refine ⟨hg, T.oex, He.eqO_ok c2, of_decide_eq_true c3, ?_, nf, ⟨ex.hg, ex.hk, ex.hs, ex.hd⟩, ex, hs⟩
  unfold fnSeen at e
  unfold inC at T
  unfold inK at T
  unfold inF at c6 T
  cases q : K.lookup (inA x K) with
  | none => rw [q] at e; cases e
  | some o =>
    obtain ⟨oc, od, dt, osl⟩ := o
    rw [q] at e c6 T
    cases dt with
    | func d =>
      obtain ⟨n1, n2, n3, n4, n5, n6, n7, n8, n9, n10, n11, n12, n13, n14, n15⟩ := d
      have e2 := Option.some.inj (show (some (n1, n2, n3, n4, n5, n6, n7.map (fun q => (q.1, (0 : Addr))), n15) : He.FnW) = _ from e)
      simp only [Prod.mk.injEq] at e2
      obtain ⟨rfl, rfl, rfl, rfl, rfl, rfl, e7, rfl⟩ := e2
      obtain ⟨cc, rfl⟩ : ∃ cc : Addr, n7 = [(("__class__" : Str), cc)] := by
        cases n7 with
        | nil => cases e7
        | cons z r =>
          cases r with
          | nil =>
            obtain ⟨z1, z2⟩ := z
            have e8 : z1 = "__class__" := congrArg Prod.fst (List.cons.inj e7).1
            exact ⟨z2, by rw [e8]⟩
          | cons _ _ => cases (List.cons.inj e7).2
      obtain ⟨c6, c7⟩ := Bool.and_eq_true_iff.mp (show (PySem.W.codeIn K n13 n2 && He.dflB K n8 []) = true from c6)
      have hD := He.dflB_ok c7
      cases n13 with
      | ref cda =>
        subst hfs
        exact ⟨_, N, fn_supF (k := 0) (pl := pl) T S h0N q c6 hp htop hm he hr hl hs nf, (by
          rcases hD with ⟨_, rfl⟩ | ⟨z, _⟩
          · exact Binds.all (hb _ _ _ _ _ _ _ _)
          · exact absurd rfl z)⟩
      | _ => cases c6
    | _ => cases e
section
variable {X : Cx} {N : List Str} {sc : Scope} {e : Expr} {es : List Expr} {δ : Ds} {A : AH} {pos p p2 : Pos} {k : Nat} {fs : List Str} {x : Str} {ET : TXQ} {D : TEnds}
/-- raise C(e, ..) -/
theorem Xc.raise (T : Xc X.prog X.w X.K X.mg X.base x fs) (B : BC X N sc) (hr : Room 2 X.A) (hx : TakesD X δ ET) (hg : sc.names.lookup x = some .globalImplicit)
    (h : WPA X (e :: es) δ A fun ds A1 => ds.length = fs.length ∧ ∃ A2, VwX A1 A2 ∧ ET (.ref (He.ga X.K x)) (fs.zip ds).reverse A2)
    (hdb : (x == ("__debug__" : Str)) = false := by decide) (he : starEach (e :: es) X.env = (false, eval e X.env) :: starEach es X.env := by rfl) (hpl : (backTo pos (starEach es X.env)).any (·.1) = false := by rfl) :
    WPS X (.Raise (some (.Call (.Name x p) (e :: es) [] pos)) none p2) δ A D := by
  obtain ⟨fd, ps, F, hb⟩ := T.F
  exact wps_raise B.calm hx T.oex T.iC T.tI F hr hb T.few (B.gl hg) T.g h hdb he hpl
end
/-! ### closing what stands open when an exception leaves -/
theorem VwX.trans {A A1 A2 : AH} (h : VwX A A1) (k : VwX A1 A2) : VwX A A2 := ⟨fun d z => k.no d (h.no d z), fun K H r => k.v K H (h.v K H r), fun d o z K H r => k.vd d o (h.no d z) K H (h.vd d o z K H r)⟩
theorem VwX.reclose {A : AH} {m : MH} {p : Addr} {R : MH → Prop} (e : A p = some (.abs R)) (r : R m) (hp : ∃ u, m p = some u) (hn : ∀ b u, b ≠ p → m b = some u → A b = none) : VwX (over A m) A := by
  have md : ∀ d, over A m d = none → m d = none := fun d z => by
    cases q : m d with
    | none => rfl
    | some u => rw [over_some q] at z; cases z
  refine ⟨fun d z => by rw [over_none (md d z)] at z; exact z, Vw.reclose e r hp hn, fun d o z => ?_⟩
  have hd := md d z
  have hpd : p ≠ d := fun q => by
    subst q
    obtain ⟨u, hu⟩ := hp
    rw [hd] at hu; cases hu
  have eq : updA (over A m) d (.prim o) = over (updA A d (.prim o)) m := by
    funext b
    by_cases q : b = d
    · subst q; rw [updA_same, over_none hd, updA_same]
    · rw [updA_ne q]
      cases q2 : m b with
      | none => rw [over_none q2, over_none q2, updA_ne q]
      | some u => rw [over_some q2, over_some q2]
  rw [eq]
  refine Vw.reclose (by rw [updA_ne hpd]; exact e) r hp fun b u hb hm => ?_
  rw [updA_ne (fun q => by subst q; rw [hd] at hm; cases hm)]
  exact hn b u hb hm
/-- an own exception class without an __init__ of its own -/
structure Xc0 (K : PySem.W.Frag) (mg : Str → Option Value) (x : Str) : Prop where
  g : mg x = some (.ref (He.ga K x))
  q : PySem.W.excIn K (He.ga K x) He.veBase "ValueError.__new__" = true
  kp : PySem.W.keepIn K (.ref (He.ga K x)) = true
  r1 : PySem.W.subIn K (.ref (He.ga K x)) (.type "BaseException") = some true
  r2 : PySem.W.typeIn K (.ref (He.ga K x)) = some (.type "type")
  ex : ExcC K (He.ga K x)
section
variable {X : Cx} {N : List Str} {sc : Scope} {e : Expr} {es : List Expr} {δ : Ds} {A : AH} {pos p p2 : Pos} {x : Str} {ET : TXQ} {D : TEnds}
theorem Xc0.raise (T : Xc0 X.K X.mg x) (B : BC X N sc) (hx : TakesD X δ ET) (hg : sc.names.lookup x = some .globalImplicit) (h : WPA X (e :: es) δ A fun ds A1 => ds.length ≤ 900 ∧ ∃ A2, VwX A1 A2 ∧ ET (.ref (He.ga X.K x)) [] A2)
    (hdb : (x == ("__debug__" : Str)) = false := by decide) (he : starEach (e :: es) X.env = (false, eval e X.env) :: starEach es X.env := by rfl) (hpl : (backTo pos (starEach es X.env)).any (·.1) = false := by rfl) :
    WPS X (.Raise (some (.Call (.Name x p) (e :: es) [] pos)) none p2) δ A D := wps_raise0 B.calm hx PySem.F.excBase_ValueError T.q T.g T.kp T.r1 T.r2 (B.gl hg) h hdb he hpl
end
theorem xc0_ok {K : PySem.W.Frag} {mg : Str → Option Value} {x : Str} (hg : mg x = some (.ref (He.ga K x))) (c : He.Fa.ok K (.exc x) = true) (c2 : excB K (He.ga K x) = true) : Xc0 K mg x := by
  obtain ⟨h1, h⟩ := Bool.and_eq_true_iff.mp c
  obtain ⟨h2, h⟩ := Bool.and_eq_true_iff.mp h
  obtain ⟨h3, h4⟩ := Bool.and_eq_true_iff.mp h
  exact ⟨hg, h1, h2, of_decide_eq_true h3, of_decide_eq_true h4, excB_ok c2⟩
end TL
/-! the program's own exceptions -/
namespace TL
open PySem PySem.Spec PyProof.Rows L2
def fl : Str := R.prog.main.file
/-- a function as a hook sees it -/
abbrev seenX (nm qual : Str) (s : Stmt) : He.FnW := some (nm, qual, defArgs s, FuncBody.stmts (defBody s), defScope s, mainGlobals, [(("__class__" : Str), (0 : Addr))], builtinsNs)
theorem zip2 {us : List Value} {a b : Str} {f : List Value → Sem (List (Str × Value))} (h : ∀ u v, f [u, v] = pure ([a, b].zip [u, v])) (hl : us.length = 2) : f us = pure ([a, b].zip us) := by
  match us, hl with
  | [u, v], _ => exact h u v
theorem zip3 {us : List Value} {a b c : Str} {f : List Value → Sem (List (Str × Value))} (h : ∀ u v w, f [u, v, w] = pure ([a, b, c].zip [u, v, w])) (hl : us.length = 3) : f us = pure ([a, b, c].zip us) := by
  match us, hl with
  | [u, v, w], _ => exact h u v w
section
variable {P : Program} {w : World} {K : PySem.W.Frag} {mg : Str → Option Value} {base : Heap}
theorem ss_NoName : SupScope N_NoName_init (defScope s_NoName_init) := ⟨rfl, rfl, rfl, by decide +kernel, by decide +kernel, by decide +kernel, by decide +kernel, rfl, rfl⟩
theorem xc_NoName (hf : (P.main.file : Str) = fl) (htop : (P.main.scope.names.lookup ("super" : Str)).isSome = false) (hm : mg "super" = none) (hg : mg "NoName" = some (.ref (He.ga K "NoName"))) (c : xB fl "NoName" ["text"] "NoName.__init__" K = true) (e : fnSeen K (inA "NoName" K) = seenX "__init__" "NoName.__init__" s_NoName_init) :
    Xc P w K mg base "NoName" ["text"] :=
  xB_ok (N := N_NoName_init) hf hg rfl c e ss_NoName rfl ⟨_, _, rfl⟩ htop hm (fun env => by rfl) (.cons rfl rfl rfl .nil) rfl (by decide) (fun body kV doc pm an cdv ct cc us hl => zip2 (f := fun us => bindArgs (PySem.W.ksFn _ _ _ body _ .none kV doc pm an cdv ct cc) ⟨us, []⟩) (fun u v => by rfl) hl)
theorem ss_AlreadyThere : SupScope N_AlreadyThere_init (defScope s_AlreadyThere_init) := ⟨rfl, rfl, rfl, by decide +kernel, by decide +kernel, by decide +kernel, by decide +kernel, rfl, rfl⟩
theorem xc_AlreadyThere (hf : (P.main.file : Str) = fl) (htop : (P.main.scope.names.lookup ("super" : Str)).isSome = false) (hm : mg "super" = none) (hg : mg "AlreadyThere" = some (.ref (He.ga K "AlreadyThere"))) (c : xB fl "AlreadyThere" ["name"] "AlreadyThere.__init__" K = true) (e : fnSeen K (inA "AlreadyThere" K) = seenX "__init__" "AlreadyThere.__init__" s_AlreadyThere_init) :
    Xc P w K mg base "AlreadyThere" ["name"] :=
  xB_ok (N := N_AlreadyThere_init) hf hg rfl c e ss_AlreadyThere rfl ⟨_, _, rfl⟩ htop hm (fun env => by rfl) (.cons rfl rfl rfl .nil) rfl (by decide) (fun body kV doc pm an cdv ct cc us hl => zip2 (f := fun us => bindArgs (PySem.W.ksFn _ _ _ body _ .none kV doc pm an cdv ct cc) ⟨us, []⟩) (fun u v => by rfl) hl)
theorem ss_NoPerson : SupScope N_NoPerson_init (defScope s_NoPerson_init) := ⟨rfl, rfl, rfl, by decide +kernel, by decide +kernel, by decide +kernel, by decide +kernel, rfl, rfl⟩
theorem xc_NoPerson (hf : (P.main.file : Str) = fl) (htop : (P.main.scope.names.lookup ("super" : Str)).isSome = false) (hm : mg "super" = none) (hg : mg "NoPerson" = some (.ref (He.ga K "NoPerson"))) (c : xB fl "NoPerson" ["name"] "NoPerson.__init__" K = true) (e : fnSeen K (inA "NoPerson" K) = seenX "__init__" "NoPerson.__init__" s_NoPerson_init) :
    Xc P w K mg base "NoPerson" ["name"] :=
  xB_ok (N := N_NoPerson_init) hf hg rfl c e ss_NoPerson rfl ⟨_, _, rfl⟩ htop hm (fun env => by rfl) (.cons rfl rfl rfl .nil) rfl (by decide) (fun body kV doc pm an cdv ct cc us hl => zip2 (f := fun us => bindArgs (PySem.W.ksFn _ _ _ body _ .none kV doc pm an cdv ct cc) ⟨us, []⟩) (fun u v => by rfl) hl)
theorem ss_TakenBack : SupScope N_TakenBack_init (defScope s_TakenBack_init) := ⟨rfl, rfl, rfl, by decide +kernel, by decide +kernel, by decide +kernel, by decide +kernel, rfl, rfl⟩
theorem xc_TakenBack (hf : (P.main.file : Str) = fl) (htop : (P.main.scope.names.lookup ("super" : Str)).isSome = false) (hm : mg "super" = none) (hg : mg "TakenBack" = some (.ref (He.ga K "TakenBack"))) (c : xB fl "TakenBack" ["actor", "person"] "TakenBack.__init__" K = true) (e : fnSeen K (inA "TakenBack" K) = seenX "__init__" "TakenBack.__init__" s_TakenBack_init) :
    Xc P w K mg base "TakenBack" ["actor", "person"] :=
  xB_ok (N := N_TakenBack_init) hf hg rfl c e ss_TakenBack rfl ⟨_, _, rfl⟩ htop hm (fun env => by rfl) (.cons rfl rfl rfl (.cons rfl rfl rfl .nil)) rfl (by decide) (fun body kV doc pm an cdv ct cc us hl => zip3 (f := fun us => bindArgs (PySem.W.ksFn _ _ _ body _ .none kV doc pm an cdv ct cc) ⟨us, []⟩) (fun u v w => by rfl) hl)
end
/-- the exceptions that webs raise -/
structure WebX (P : Program) (w : World) (K : PySem.W.Frag) (mg : Str → Option Value) (base : Heap) : Prop where
  nn : Xc P w K mg base "NoName" ["text"]
  at_ : Xc P w K mg base "AlreadyThere" ["name"]
  np : Xc P w K mg base "NoPerson" ["name"]
  tb : Xc P w K mg base "TakenBack" ["actor", "person"]
  tm : Xc0 K mg "TooMany"
end TL
/-! webs: what they hold, their methods -/
namespace TL
open PySem PySem.Spec PyProof.Rows L2
variable {P : Program} {w : World} {K : PySem.W.Frag} {mg : Str → Option Value} {base : Heap} {k : Nat}

structure WebD where
  people : List Str
  ties : List (Str × Str)
  rc : Str → List Str
abbrev pr (t : Str × Str) : TL.D := Tree.enc t
def isWeb (C lp p : Addr) (W : WebD) : MH → Prop := fun m => ∃ (lt lr : Addr) (ad : Str → Addr), m p = some (.ins C [("_people", .ref lp), ("_ties", .ref lt), ("_reach", .ref lr)]) ∧ m lp = some (.lst (W.people.map .str)) ∧ m lt = some (.lst (W.ties.map pr)) ∧
  m lr = some (.dK (W.people.map fun n => (.inr n, .ref (ad n)))) ∧ (∀ n ∈ W.people, m (ad n) = some (.lst ((W.rc n).map .str))) ∧ lp ≠ lt ∧ ∀ n ∈ W.people, ad n ≠ lp ∧ ad n ≠ lt
structure WebD.ok (W : WebD) : Prop where
  nd : W.people.Nodup
  len : W.people.length ≤ 24
  rnd : ∀ n ∈ W.people, (W.rc n).Nodup ∧ ∀ x ∈ W.rc n, x ∈ W.people
  tnd : W.ties.Nodup
  tin : ∀ t ∈ W.ties, t.1 ∈ W.people ∧ t.2 ∈ W.people
theorem len_le_of_sub {α : Type} [DecidableEq α] : ∀ {l r : List α}, l.Nodup → (∀ x ∈ l, x ∈ r) → l.length ≤ r.length
  | [], _, _, _ => Nat.zero_le _
  | a :: l, r, nd, h => by
    have nd2 := List.nodup_cons.mp nd
    have ha := h a List.mem_cons_self
    have ih := len_le_of_sub (r := r.erase a) nd2.2 fun x hx => (List.mem_erase_of_ne (fun (e : x = a) => nd2.1 (by rw [← e]; exact hx))).mpr (h x (List.mem_cons_of_mem _ hx))
    rw [List.length_erase_of_mem ha] at ih
    have := List.length_pos_of_mem ha
    simp only [List.length_cons]
    omega
/-- the dict of the reach, read -/
theorem valD_web {ad : Str → Addr} {n : Str} : ∀ ps : List Str, valD (ps.map fun n => ((.inr n : Key), TL.D.ref (ad n))) (.inr n) = if n ∈ ps then some (.ref (ad n)) else none
  | [] => rfl
  | a :: r => by
    have ih := valD_web (ad := ad) (n := n) r
    unfold valD at ih ⊢
    rw [List.map_cons, List.find?_cons]
    by_cases q : a = n
    · subst q; simp
    · have q1 : ((.inr a : Key) = .inr n) = False := by simpa using q
      simp only [q1, decide_false]
      rw [ih]
      have q2 : n ≠ a := fun z => q z.symm
      simp [q2]
theorem putKD_new {ad : Str → Addr} {n : Str} {v : TL.D} {ps : List Str} (h : n ∉ ps) : putKD (ps.map fun n => ((.inr n : Key), TL.D.ref (ad n))) (.inr n) v = (ps.map fun n => ((.inr n : Key), TL.D.ref (ad n))) ++ [(.inr n, v)] := by
  unfold putKD
  rw [if_neg]
  simp only [List.any_map, List.any_eq_true, Function.comp]
  rintro ⟨x, hx, e⟩
  have e2 : x = n := by simpa using e
  exact h (e2 ▸ hx)
theorem putKD_old {ad : Str → Addr} {n : Str} {l : Addr} {ps : List Str} (h : n ∈ ps) : putKD (ps.map fun n => ((.inr n : Key), TL.D.ref (ad n))) (.inr n) (.ref l) = ps.map fun m => ((.inr m : Key), TL.D.ref (if m = n then l else ad m)) := by
  unfold putKD
  rw [if_pos]
  · rw [List.map_map]
    refine List.map_congr_left fun x hx => ?_
    by_cases q : x = n
    · subst q; simp [Function.comp]
    · have q1 : ((.inr x : Key) = .inr n) = False := by simpa using q
      simp [Function.comp, q1, q]
  · simp only [List.any_map, List.any_eq_true, Function.comp]
    exact ⟨n, h, by simp⟩
/-- a person joins -/
def WebD.add (W : WebD) (n : Str) : WebD := ⟨W.people ++ [n], W.ties, fun m => if m = n then [n] else W.rc m⟩

/-! ### the facts of the class -/
abbrev cW (K : PySem.W.Frag) : Addr := He.ga K "Web"
abbrev wm (K : PySem.W.Frag) (m : Str) : Addr := He.ma K (cW K) m
abbrev FD (K : PySem.W.Frag) (nm qual : Str) (st : Stmt) (f : Addr) : Prop := ∃ fd, FunD K nm qual (defArgs st) (defBody st) (defScope st) [] [] f fd
structure WebK (K : PySem.W.Frag) (mg : Str → Option Value) : Prop where
  cls : Cls K (cW K)
  nP : NoAttr K (cW K) "_people"
  nT : NoAttr K (cW K) "_ties"
  nR : NoAttr K (cW K) "_reach"
  seq : PySem.W.noSeq K (cW K) = true
  gW : mg "Web" = some (.ref (cW K))
  gis : mg "is_name" = some (.ref (He.ga K "is_name"))
  gnn : mg "need_name" = some (.ref (He.ga K "need_name"))
  kis : PySem.W.keepIn K (.ref (He.ga K "is_name")) = true
  knn : PySem.W.keepIn K (.ref (He.ga K "need_name")) = true
  flen : mg "len" = none
  flist : mg "list" = none
  fiter : mg "iter" = none
  mwel : Meth K (cW K) "welcome" (wm K "welcome")
  mneed : Meth K (cW K) "need" (wm K "need")
  most : ∃ mc u, ClX.CRead K (cW K) mc ∧ ClX.CVal K (cW K) mc "MOST_PEOPLE" (.int 24) u

/-! ### need_name -/
def tpNeedName (K : PySem.W.Frag) : TSp := fun ds A Q E => ∃ z : Str, ds = [.str z] ∧ z.length ≤ sizeLine ∧ (isName z = true → Q .non A) ∧ (isName z = false → E (.ref (He.ga K "NoName")) [("text", .str z)] A)
theorem sc_need_name : FnScope N_need_name ["text"] (defScope s_need_name) := ⟨rfl, rfl, rfl, by decide +kernel, rfl, by decide +kernel, by decide +kernel⟩
theorem body_need_name (G : WebK K mg) (XX : WebX P w K mg base) (F : FnT P w K mg base 1 (He.ga K "is_name") tpIsName) : BodyT P w K mg base N_need_name (defScope s_need_name) 2 (defBody s_need_name) (tpNeedName K) := by
  intro X bd ds A Q ET hx ⟨z, e, hz, hq, he⟩
  obtain ⟨rfl, rfl, rfl, rfl, rfl, B, room, _, _⟩ := bd
  subst e
  refine wpb_cons (wps_ifE (k := !isName z) (et_not (k := isName z) (et_val ?_)) (fun h => wpb_cons (XX.nn.raise B.toBC room hx.at_ rfl (EvA.wp (eva_cons (B.nm (i := 0) rfl rfl (.inl rfl)) eva_nil) ⟨rfl, A, VwX.refl A, he (by simpa using h)⟩))) fun h => wpb_nil (wpb_nil (RV.mk (hq (by simpa using h)))))
  exact B.ecall (F.mono (by decide)) room rfl G.gis G.kis (eva_cons (B.nm (i := 0) rfl rfl (.inl rfl)) eva_nil) fun A1 _ Q1 q1 => ⟨z, rfl, hz, q1⟩

/-! ### __len__, __contains__ -/
theorem web_insT {A : AH} {C lp p : Addr} {W : WebD} {m : Str} (h : A p = some (.abs (isWeb C lp p W))) (l : ∀ a b c : TL.D, List.lookup m [(("_people" : Str), a), ("_ties", b), ("_reach", c)] = none) : InsT K A p C m :=
  insT_abs h fun mm ⟨lt, lr, ad, h1, _⟩ => ⟨_, h1, l _ _ _⟩
theorem web_insC {A : AH} {C lp p : Addr} {W : WebD} (h : A p = some (.abs (isWeb C lp p W))) : InsC K A p C := insC_abs h fun mm ⟨lt, lr, ad, h1, _⟩ => ⟨_, h1⟩
def tpWLen (K : PySem.W.Frag) : TSp := fun ds A Q E => ∃ p lp W, ds = [.ref p] ∧ A p = some (.abs (isWeb (cW K) lp p W)) ∧ Q (.int W.people.length) A
theorem sc_wlen : FnScope N_Web_len ["self"] (defScope s_Web_len) := ⟨rfl, rfl, rfl, by decide +kernel, rfl, by decide +kernel, by decide +kernel⟩
theorem body_wlen (G : WebK K mg) : BodyT P w K mg base N_Web_len (defScope s_Web_len) 0 (defBody s_Web_len) (tpWLen K) := by
  intro X bd ds A Q ET hx ⟨p, lp, W, e, hp, q⟩
  obtain ⟨rfl, rfl, rfl, rfl, rfl, B, room, _, _⟩ := bd
  subst e
  refine WPB.open_ hp fun m hm hmp hn => ?_
  obtain ⟨lt, lr, ad, h1, h2, h3, h4, h5, h6, h7⟩ := id hm
  refine wpb_cons (wps_ret (Ev.wp (d := .int W.people.length) ?_ ⟨A, Vw.reclose hp hm hmp hn, q⟩))
  exact Ev.to (B.eB rfl G.flen bt_len (eva_cons (ev_fld (B.nm (i := 0) rfl rfl (.inl rfl)) (over_some h1) rfl G.cls G.nP) eva_nil) (cav_len (.inl (over_some h2)))) (by rw [List.length_map])
def tpWHas (K : PySem.W.Frag) : TSp := fun ds A Q E => ∃ p lp W n, ds = [.ref p, .str n] ∧ A p = some (.abs (isWeb (cW K) lp p W)) ∧ Q (.bl (decide (n ∈ W.people))) A
theorem sc_whas : FnScope N_Web_contains ["self", "name"] (defScope s_Web_contains) := ⟨rfl, rfl, rfl, by decide +kernel, rfl, by decide +kernel, by decide +kernel⟩
theorem body_whas (G : WebK K mg) : BodyT P w K mg base N_Web_contains (defScope s_Web_contains) 0 (defBody s_Web_contains) (tpWHas K) := by
  intro X bd ds A Q ET hx ⟨p, lp, W, n, e, hp, q⟩
  obtain ⟨rfl, rfl, rfl, rfl, rfl, B, room, _, _⟩ := bd
  subst e
  refine WPB.open_ hp fun m hm hmp hn => ?_
  obtain ⟨lt, lr, ad, h1, h2, h3, h4, h5, h6, h7⟩ := id hm
  refine wpb_cons (wps_ret (Ev.wp (d := .bl (decide (n ∈ W.people))) ?_ ⟨A, Vw.reclose hp hm hmp hn, q⟩))
  exact Ev.to (ev_din (k := .inr n) (by have := room.units; omega) (B.nm (i := 1) rfl rfl (.inl rfl)) (ev_fld (B.nm (i := 0) rfl rfl (.inl rfl)) (over_some h1) rfl G.cls G.nR) (over_some h4)) (by rw [valD_web]; by_cases h : n ∈ W.people <;> simp [h])

/-! ### need -/
def tpNeed (K : PySem.W.Frag) : TSp := fun ds A Q E => ∃ p lp W, ∃ ns : List Str, ds = [.ref p, .tup (ns.map .str)] ∧ A p = some (.abs (isWeb (cW K) lp p W)) ∧ ((∀ n ∈ ns, n ∈ W.people) → Q .non A) ∧
  (∀ pre n post, ns = pre ++ n :: post → (∀ x ∈ pre, x ∈ W.people) → n ∉ W.people → E (.ref (He.ga K "NoPerson")) [("name", .str n)] A)
theorem sc_need : FnScope N_Web_need ([("self" : Str)] ++ [("names" : Str)]) (defScope s_Web_need) := ⟨rfl, rfl, rfl, by decide +kernel, rfl, by decide +kernel, by decide +kernel⟩
theorem body_need (G : WebK K mg) (XX : WebX P w K mg base) : BodyT P w K mg base N_Web_need (defScope s_Web_need) 2 (defBody s_Web_need) (tpNeed K) := by
  intro X bd ds A Q ET hx ⟨p, lp, W, ns, e, hp, q, he⟩
  obtain ⟨rfl, rfl, rfl, rfl, rfl, B, room, _, _⟩ := bd
  subst e
  refine WPB.open_ hp fun m hm hmp hn => ?_
  obtain ⟨lt, lr, ad, h1, h2, h3, h4, h5, h6, h7⟩ := id hm
  refine wpb_cons (B.for_ (wpi_tup (Ev.wp (B.nm (i := 1) rfl rfl (.inl rfl)) ⟨_, rfl, fun i δ' A' => A' = over A m ∧ (∀ x ∈ ns.take i, x ∈ W.people) ∧ ∃ v, δ' = (startD N_Web_need [.ref p, .tup (ns.map .str)]).set 2 v, ⟨rfl, by simp, none, rfl⟩, fun _ _ _ _ _ => trivial, fun i δ' A' hi ⟨eA, hpre, v, eδ⟩ => ?_, fun δ' A' ⟨eA, hpre, v, eδ⟩ => ?_⟩)))
  · subst eA eδ
    have hi' : i < ns.length := by simpa using hi
    refine WPG.to (B.tn (i := 2) rfl (.inl rfl) ?_) (getD_map hi')
    refine wpb_cons (wps_ifE (k := !decide (ns[i] ∈ W.people)) ?_ (fun h => wpb_cons (XX.np.raise B.toBC room hx.at_ rfl (EvA.wp (eva_cons (B.nm (i := 2) rfl rfl (.inl rfl)) eva_nil) ⟨rfl, A, VwX.reclose hp hm hmp hn, he (ns.take i) ns[i] (ns.drop (i + 1)) (by simp) hpre (by simpa using h)⟩))) fun h => wpb_nil (wpb_nil ⟨_, Vw.refl _, rfl, fun x hx => ?_, some (.str ns[i]), by rw [List.set_set]⟩))
    · exact EvT.to (et_dnin (k := .inr ns[i]) (by have := room.units; omega) (B.nm (i := 2) rfl rfl (.inl rfl)) (ev_fld (B.nm (i := 0) rfl rfl (.inl rfl)) (over_some h1) rfl G.cls G.nR) (over_some h4)) (by rw [valD_web]; by_cases z : ns[i] ∈ W.people <;> simp [z])
    · rw [List.take_add_one, List.getElem?_eq_getElem hi'] at hx
      rcases List.mem_append.mp hx with hx | hx
      · exact hpre x hx
      · have : x = ns[i] := by simpa using hx
        subst this
        simpa using h
  · subst eA
    have : ns.take (ns.map TL.D.str).length = ns := by simp
    rw [this] at hpre
    exact wpb_nil ⟨A, Vw.reclose hp hm hmp hn, q hpre⟩

/-! ### __getitem__ -/
def tpGet (K : PySem.W.Frag) : TSp := fun ds A Q E => ∃ p lp W a b, ds = [.ref p, pr (a, b)] ∧ A p = some (.abs (isWeb (cW K) lp p W)) ∧ (a ∈ W.people → b ∈ W.people → Q (.bl (decide (b ∈ W.rc a))) A) ∧
  (a ∉ W.people → E (.ref (He.ga K "NoPerson")) [("name", .str a)] A) ∧ (a ∈ W.people → b ∉ W.people → E (.ref (He.ga K "NoPerson")) [("name", .str b)] A)
theorem sc_wget : FnScope N_Web_getitem ["self", "pair"] (defScope s_Web_getitem) := ⟨rfl, rfl, rfl, by decide +kernel, rfl, by decide +kernel, by decide +kernel⟩
abbrev tpNeedS (K : PySem.W.Frag) : TSp := fun ds A Q E => ∃ ws rest, ds = ws ++ rest ∧ ws.length = 1 ∧ rest.length ≤ sizeLine ∧ tpNeed K (ws ++ [.tup rest]) A Q E
/-- need(actor, person) -/
theorem need_two {p lp : Addr} {W : WebD} {a b : Str} {A : AH} {Q : TQ} {E : TXQ} (hp : A p = some (.abs (isWeb (cW K) lp p W))) (q : a ∈ W.people → b ∈ W.people → Q .non A)
    (ea : a ∉ W.people → E (.ref (He.ga K "NoPerson")) [("name", .str a)] A) (eb : a ∈ W.people → b ∉ W.people → E (.ref (He.ga K "NoPerson")) [("name", .str b)] A) : tpNeedS K [.ref p, .str a, .str b] A Q E := by
  refine ⟨[.ref p], [.str a, .str b], rfl, rfl, (show 2 ≤ sizeLine by decide), p, lp, W, [a, b], rfl, hp, fun h => q (h a (by simp)) (h b (by simp)), fun pre n post e hpre hn => ?_⟩
  cases pre with
  | nil => obtain ⟨rfl, _⟩ := List.cons.inj e; exact ea hn
  | cons x pre =>
    obtain ⟨rfl, e2⟩ := List.cons.inj e
    cases pre with
    | nil => obtain ⟨rfl, _⟩ := List.cons.inj e2; exact eb (hpre _ (by simp)) hn
    | cons y pre =>
      have := congrArg List.length e2
      simp at this
theorem body_wget (G : WebK K mg) (F : FnT P w K mg base 3 (wm K "need") (tpNeedS K)) : BodyT P w K mg base N_Web_getitem (defScope s_Web_getitem) 3 (defBody s_Web_getitem) (tpGet K) := by
  intro X bd ds A Q ET hx ⟨p, lp, W, a, b, e, hp, q, ea, eb⟩
  obtain ⟨rfl, rfl, rfl, rfl, rfl, B, room, _, _⟩ := bd
  subst e
  refine wpb_cons (wps_asg (Ev.wp (B.nm (i := 1) rfl rfl (.inl rfl)) (B.tt (B.tns (i := 2) rfl (.inl rfl) (B.tns (i := 3) rfl (.inl rfl) (wpgs_nil ?_))))))
  refine wpb_cons (wps_expr (wpe_meth (ET := ET) G.cls G.mneed F room hx.at_.p (Ev.wp (B.nm (i := 0) rfl rfl (.inl rfl)) ⟨p, rfl, web_insT hp fun _ _ _ => rfl, EvA.wp (eva_cons (B.nm (i := 2) rfl rfl (.inl rfl)) (eva_cons (B.nm (i := 3) rfl rfl (.inl rfl)) eva_nil)) (need_two hp (fun ha hb => ?_) ea eb)⟩)))
  have q := q ha hb
  refine WPB.open_ hp fun m hm hmp hn => ?_
  obtain ⟨lt, lr, ad, h1, h2, h3, h4, h5, h6, h7⟩ := id hm
  refine wpb_cons (wps_ret (Ev.wp (d := .bl (decide (b ∈ W.rc a))) ?_ ⟨A, Vw.reclose hp hm hmp hn, q⟩))
  refine ev_cmp (B.nm (i := 3) rfl rfl (.inl rfl)) (ev_dget (k := .inr a) (by have := room.units; omega) (ev_fld (B.nm (i := 0) rfl rfl (.inl rfl)) (over_some h1) rfl G.cls G.nR) (B.nm (i := 2) rfl rfl (.inl rfl)) (over_some h4) (by rw [valD_web, if_pos ha])) (opv_inL (ys := W.rc a) (x := b) (over_some (h5 a ha)) (by have := room.units; show _ + 1 + 0 < _; omega)) rfl
end TL
/-! webs: who joins, the ties -/
namespace TL
open PySem PySem.Spec PyProof.Rows L2
variable {P : Program} {w : World} {K : PySem.W.Frag} {mg : Str → Option Value} {base : Heap} {k : Nat}

def tpWelcome (K : PySem.W.Frag) : TSp := fun ds A Q E => ∃ p lp W, ∃ n : Str, ds = [.ref p, .str n] ∧ A p = some (.abs (isWeb (cW K) lp p W)) ∧ n.length ≤ sizeLine ∧ W.people.length ≤ 24 ∧ (isName n = true → n ∉ W.people → W.people.length < 24 → Q .non (updA A p (.abs (isWeb (cW K) lp p (W.add n))))) ∧
  (isName n = false → E (.ref (He.ga K "NoName")) [("text", .str n)] A) ∧ (isName n = true → n ∈ W.people → E (.ref (He.ga K "AlreadyThere")) [("name", .str n)] A) ∧ (isName n = true → n ∉ W.people → W.people.length = 24 → E (.ref (He.ga K "TooMany")) [] A)
theorem sc_welcome : FnScope N_Web_welcome ["self", "name"] (defScope s_Web_welcome) := ⟨rfl, rfl, rfl, by decide +kernel, rfl, by decide +kernel, by decide +kernel⟩
theorem body_welcome (G : WebK K mg) (XX : WebX P w K mg base) (F : FnT P w K mg base 3 (He.ga K "need_name") (tpNeedName K)) : BodyT P w K mg base N_Web_welcome (defScope s_Web_welcome) 3 (defBody s_Web_welcome) (tpWelcome K) := by
  intro X bd ds A Q ET hx ⟨p, lp, W, n, e, hp, hl, hle, q, e1, e2, e3⟩
  obtain ⟨rfl, rfl, rfl, rfl, rfl, B, room, _, _⟩ := bd
  subst e
  obtain ⟨mc, u, cr, cv⟩ := G.most
  refine wpb_cons (wps_expr (B.call (ET := ET) F room rfl G.gnn G.knn hx.at_.p (EvA.wp (eva_cons (B.nm (i := 1) rfl rfl (.inl rfl)) eva_nil) ⟨n, rfl, hl, fun hnm => ?_, e1⟩)))
  refine WPB.open_ hp fun m hm hmp hn => ?_
  obtain ⟨lt, lr, ad, h1, h2, h3, h4, h5, h6, h7⟩ := id hm
  have o1 := over_some (A := A) h1
  have o2 := over_some (A := A) h2
  have o3 := over_some (A := A) h3
  have o4 := over_some (A := A) h4
  have o5 := fun x hx => over_some (A := A) (h5 x hx)
  have fr := Frm.open_ hn
  refine wpb_cons (wps_ifE (k := decide (n ∈ W.people)) (EvT.to (et_din (k := .inr n) (by have := room.units; omega) (B.nm (i := 1) rfl rfl (.inl rfl)) (ev_fld (B.nm (i := 0) rfl rfl (.inl rfl)) o1 rfl G.cls G.nR) o4) (by rw [valD_web]; by_cases z : n ∈ W.people <;> simp [z]))
    (fun h => wpb_cons (XX.at_.raise B.toBC (room.mono (by decide)) hx.at_ rfl (EvA.wp (eva_cons (B.nm (i := 1) rfl rfl (.inl rfl)) eva_nil) ⟨rfl, A, VwX.reclose hp hm hmp hn, e2 hnm (by simpa using h)⟩))) fun h => wpb_nil ?_)
  have hnew : n ∉ W.people := by simpa using h
  refine wpb_cons (wps_ifE (k := decide (W.people.length = 24)) (EvT.to (et_cmp (B.eB rfl G.flen bt_len (eva_cons (ev_fld (B.nm (i := 0) rfl rfl (.inl rfl)) o1 rfl G.cls G.nP) eva_nil) (cav_len (.inl o2))) (ev_cval (B.gR rfl G.gW) cr cv fun _ => .int) (opv_eq (α := Int) (by have := room.units; show _ + 0 < _; omega)) rfl) (by rw [List.length_map]; exact decide_eq_decide.mpr (by omega)))
    (fun h => wpb_cons (XX.tm.raise B.toBC hx.at_ rfl (EvA.wp (eva_cons ev_str eva_nil) ⟨by decide, A, VwX.reclose hp hm hmp hn, e3 hnm hnew (by simpa using h)⟩))) fun h => wpb_nil ?_)
  have h24 : W.people.length < 24 := by
    have : W.people.length ≠ 24 := by simpa using h
    omega
  have q := q hnm hnew h24
  refine wpb_cons (wps_expr (wpe_append (Ev.wp (ev_fld (B.nm (i := 0) rfl rfl (.inl rfl)) o1 rfl G.cls G.nP) ⟨lp, rfl, ⟨_, o2⟩, Ev.wp (B.nm (i := 1) rfl rfl (.inl rfl)) ⟨_, o2, by rw [List.length_map, sizeLine_eq]; omega, ?_⟩⟩)))
  have n1 : p ≠ lp := ne_kind o1 o2 (by intro z; cases z)
  have n4 : lr ≠ lp := ne_kind o4 o2 (by intro z; cases z)
  have a1 := upd_ne' (u := .prim (.lst (W.people.map TL.D.str ++ [.str n]))) o1 n1
  have a2 : updA (over A m) lp (.prim (.lst (W.people.map TL.D.str ++ [.str n]))) lp = _ := updA_same
  have a3 := upd_ne' (u := .prim (.lst (W.people.map TL.D.str ++ [.str n]))) o3 (Ne.symm h6)
  have a4 := upd_ne' (u := .prim (.lst (W.people.map TL.D.str ++ [.str n]))) o4 n4
  have a5 := fun x hx => upd_ne' (u := .prim (.lst (W.people.map TL.D.str ++ [.str n]))) (o5 x hx) (h7 x hx).1
  have fr2 := fr.upd (o := .prim (.lst (W.people.map TL.D.str ++ [.str n]))) (hn lp _ (Ne.symm n1) h2)
  generalize hA2 : updA (over A m) lp (.prim (.lst (W.people.map TL.D.str ++ [.str n]))) = A2 at a1 a2 a3 a4 a5 fr2 ⊢
  refine wpb_cons (wps_dput (by have := room.units; omega) (EvN.wp (evn_lst (eva_cons (B.nm (i := 1) rfl rfl (.inl rfl)) eva_nil) (show 1 ≤ sizeLine by decide)) fun r hr => Ev.wp (ev_fld (B.nm (i := 0) rfl rfl (.inl rfl)) (upd_new a1 hr) rfl G.cls G.nR) (Ev.wp (B.nm (i := 1) rfl rfl (.inl rfl)) ⟨lr, _, .inr n, rfl, rfl, upd_new a4 hr, by rw [List.length_map, sizeLine_eq]; omega, ?_⟩)))
  have rne : ∀ b o, A2 b = some o → b ≠ r := fun b o hb z => by rw [z, hr] at hb; cases hb
  have nrlr : r ≠ lr := Ne.symm (rne _ _ a4)
  refine wpb_nil ⟨_, ?_, q⟩
  refine Vw.close (S := p :: lp :: lt :: lr :: r :: W.people.map ad) ?_ ?_ List.mem_cons_self ⟨_, upd_ne' (upd_new a1 hr) (ne_kind a1 a4 (by intro z; cases z))⟩ ?_
  · intro b hb hbp
    simp only [List.mem_cons, List.mem_map] at hb
    rcases hb with hb | hb | hb | hb | hb | ⟨x, hx, hb⟩
    · exact absurd hb hbp
    · subst hb; exact hn _ _ hbp h2
    · subst hb; exact hn _ _ hbp h3
    · subst hb; exact hn _ _ hbp h4
    · subst hb; exact fr2.none a1 hr
    · subst hb; exact hn _ _ hbp (h5 x hx)
  · exact (fr2.upd (fr2.none a1 hr)).upd (hn lr _ (ne_kind a4 a1 (by intro z; cases z)) h4)
  · refine ⟨lt, lr, fun x => if x = n then r else ad x, ?_, ?_, ?_, ?_, ?_, h6, ?_⟩
    · exact pick_at (by simp) (upd_ne' (upd_new a1 hr) (ne_kind a1 a4 (by intro z; cases z)))
    · refine pick_at (by simp) ((upd_ne' (upd_new a2 hr) (ne_kind a2 a4 (by intro z; cases z))).trans ?_)
      show _ = some (AO.prim (.lst ((W.people ++ [n]).map TL.D.str)))
      rw [List.map_append]; rfl
    · exact pick_at (by simp) (upd_ne' (upd_new a3 hr) (ne_kind a3 a4 (by intro z; cases z)))
    · refine pick_at (by simp) (updA_same.trans ?_)
      rw [putKD_new hnew]
      show _ = some (AO.prim (.dK ((W.people ++ [n]).map _)))
      have em : (W.people.map fun x => ((.inr x : Key), TL.D.ref (ad x))) = W.people.map fun x => ((.inr x : Key), TL.D.ref (if x = n then r else ad x)) := List.map_congr_left fun x hx => by rw [if_neg (fun (z : x = n) => hnew (by rw [← z]; exact hx))]
      rw [List.map_append, List.map_singleton, em]
      simp
    · intro x hx
      have hx : x ∈ W.people ++ [n] := hx
      show pick _ _ (if x = n then r else ad x) = some (.lst ((if x = n then [n] else W.rc x).map _))
      by_cases q : x = n
      · subst q
        rw [if_pos rfl, if_pos rfl]
        exact pick_at (by simp) (upd_ne' updA_same nrlr)
      · rw [if_neg q, if_neg q]
        have hx2 : x ∈ W.people := by simpa [q] using hx
        refine pick_at ?_ (upd_ne' (upd_new (a5 x hx2) hr) (ne_kind (a5 x hx2) a4 (by intro z; cases z)))
        simp only [List.mem_cons, List.mem_map]
        exact .inr (.inr (.inr (.inr (.inr ⟨x, hx2, rfl⟩))))
    · intro x hx
      have hx : x ∈ W.people ++ [n] := hx
      dsimp only
      by_cases q : x = n
      · subst q
        rw [if_pos rfl]
        exact ⟨Ne.symm (rne _ _ a2), Ne.symm (rne _ _ a3)⟩
      · rw [if_neg q]
        exact h7 x (by simpa [q] using hx)
end TL
/-! webs: a tie is set -/
namespace TL
open PySem PySem.Spec PyProof.Rows L2
variable {P : Program} {w : World} {K : PySem.W.Frag} {mg : Str → Option Value} {base : Heap} {k : Nat}

def WebD.rc' (W : WebD) (a b n : Str) : List Str := if a ∈ W.rc n then W.rc n ++ (W.rc b).filter (fun x => decide (x ∉ W.rc n)) else W.rc n
def WebD.tie (W : WebD) (a b : Str) : WebD := if a = b ∨ (a, b) ∈ W.ties then W else ⟨W.people, W.ties ++ [(a, b)], W.rc' a b⟩
theorem updA_self {A : AH} {p : Addr} {o : AO} (h : A p = some o) : updA A p o = A := by
  funext b
  by_cases z : b = p
  · subst z; rw [updA_same, h]
  · rw [updA_ne z]
/-- the reach of those of whom it has been told -/
def WebD.rcI (W : WebD) (a b : Str) (i : Nat) (n : Str) : List Str := if n ∈ W.people.take i then W.rc' a b n else W.rc n
theorem mem_take_next {α : Type} {xs : List α} {i : Nat} {x : α} (hi : i < xs.length) : x ∈ xs.take (i + 1) ↔ x ∈ xs.take i ∨ x = xs[i] := by
  rw [take_snoc (List.getElem?_eq_getElem hi), List.mem_append, List.mem_singleton]
theorem rcI_next {W : WebD} {a b x : Str} {i : Nat} (hi : i < W.people.length) (h : x ≠ W.people[i]) : W.rcI a b (i + 1) x = W.rcI a b i x := by
  unfold WebD.rcI
  simp only [mem_take_next hi, h, or_false]
theorem rcI_here {W : WebD} {a b : Str} {i : Nat} (hi : i < W.people.length) : W.rcI a b (i + 1) W.people[i] = W.rc' a b W.people[i] := by
  unfold WebD.rcI
  rw [if_pos ((mem_take_next hi).mpr (.inr rfl))]
theorem not_in_take {α : Type} {xs : List α} (nd : xs.Nodup) {i : Nat} (hi : i < xs.length) : xs[i] ∉ xs.take i := fun h => by
  obtain ⟨j, hj, e⟩ := List.mem_iff_getElem.mp h
  rw [List.length_take] at hj
  rw [List.getElem_take] at e
  have := (List.getElem_inj nd).mp e
  omega
theorem rcI_old {W : WebD} {a b : Str} {i : Nat} (nd : W.people.Nodup) (hi : i < W.people.length) : W.rcI a b i W.people[i] = W.rc W.people[i] := by
  unfold WebD.rcI
  rw [if_neg (not_in_take nd hi)]
structure SetI (C lp p lt lr g : Addr) (W : WebD) (a b : Str) (A : AH) (i : Nat) (ad : Str → Addr) (A' : AH) : Prop where
  f1 : A' p = some (.prim (.ins C [("_people", .ref lp), ("_ties", .ref lt), ("_reach", .ref lr)]))
  f2 : A' lp = some (.prim (.lst (W.people.map .str)))
  f3 : A' lt = some (.prim (.lst ((W.ties ++ [(a, b)]).map pr)))
  f4 : A' lr = some (.prim (.dK (W.people.map fun n => (.inr n, .ref (ad n)))))
  f5 : ∀ n ∈ W.people, A' (ad n) = some (.prim (.lst ((W.rcI a b i n).map .str)))
  f6 : A' g = some (.prim (.lst ((W.rc b).map .str)))
  f7 : ∀ n ∈ W.people, ad n ≠ lp ∧ ad n ≠ lt
  f8 : Frm A A' p
  f9 : ∀ n ∈ W.people, A (ad n) = none
  g2 : A lp = none
  g3 : A lt = none
  g4 : A lr = none
theorem setI_step {C lp p lt lr g q r : Addr} {W : WebD} {a b n : Str} {A A' : AH} {i : Nat} {ad : Str → Addr} {o1 u : AO} (I : SetI C lp p lt lr g W a b A i ad A') (hi : i < W.people.length) (hn : W.people[i] = n) (hq : A' q = none) (hr : updA A' q o1 r = none) (eu : u = .prim (.lst ((W.rc' a b n).map .str))) :
    SetI C lp p lt lr g W a b A (i + 1) (fun m => if m = n then r else ad m) (updA (updA (updA A' q o1) r u) lr (.prim (.dK (putKD (W.people.map fun n => ((.inr n : Key), TL.D.ref (ad n))) (.inr n) (.ref r))))) := by
  have hmem : n ∈ W.people := hn ▸ List.getElem_mem hi
  have keep : ∀ x o, A' x = some o → x ≠ lr → updA (updA (updA A' q o1) r u) lr (.prim (.dK (putKD (W.people.map fun n => ((.inr n : Key), TL.D.ref (ad n))) (.inr n) (.ref r)))) x = some o := fun x o h hx => upd_ne' (upd_new (upd_new h hq) hr) hx
  have rne : ∀ x o, A' x = some o → x ≠ r := fun x o h z => by
    have := upd_new (u := o1) h hq
    rw [z, hr] at this; cases this
  have fq := I.f8.none I.f1 hq
  have fr2 := I.f8.upd (o := o1) fq
  have fr := fr2.none (upd_new I.f1 hq) hr
  refine ⟨keep _ _ I.f1 (ne_kind I.f1 I.f4 (by intro z; cases z)), keep _ _ I.f2 (ne_kind I.f2 I.f4 (by intro z; cases z)), keep _ _ I.f3 (ne_kind I.f3 I.f4 (by intro z; cases z)), ?_, fun x hx => ?_, keep _ _ I.f6 (ne_kind I.f6 I.f4 (by intro z; cases z)), fun x hx => ?_, ?_, fun x hx => ?_, I.g2, I.g3, I.g4⟩
  · rw [updA_same, putKD_old hmem]
  · by_cases hxn : x = n
    · subst hxn
      have e := rcI_here (W := W) (a := a) (b := b) hi
      rw [hn] at e
      rw [if_pos rfl, e, ← eu]
      exact upd_ne' updA_same (Ne.symm (rne _ _ I.f4))
    · rw [if_neg hxn, rcI_next hi (by rw [hn]; exact hxn)]
      exact keep _ _ (I.f5 x hx) (ne_kind (I.f5 x hx) I.f4 (by intro z; cases z))
  · by_cases hxn : x = n
    · rw [if_pos hxn]
      exact ⟨Ne.symm (rne _ _ I.f2), Ne.symm (rne _ _ I.f3)⟩
    · rw [if_neg hxn]; exact I.f7 x hx
  · exact (fr2.upd fr).upd I.g4
  · by_cases hxn : x = n
    · rw [if_pos hxn]; exact fr
    · rw [if_neg hxn]; exact I.f9 x hx
theorem setI_close {C lp p lt lr g : Addr} {W : WebD} {a b : Str} {A A' : AH} {ad : Str → Addr} (I : SetI C lp p lt lr g W a b A W.people.length ad A') (h6 : lp ≠ lt) (hne : ¬ (a = b ∨ (a, b) ∈ W.ties)) : Vw A' (updA A p (.abs (isWeb C lp p (W.tie a b)))) := by
  have et : W.tie a b = ⟨W.people, W.ties ++ [(a, b)], W.rc' a b⟩ := by unfold WebD.tie; rw [if_neg hne]
  rw [et]
  refine Vw.close (S := p :: lp :: lt :: lr :: W.people.map ad) ?_ I.f8 List.mem_cons_self ⟨_, I.f1⟩ ⟨lt, lr, ad, pick_at (by simp) I.f1, pick_at (by simp) I.f2, pick_at (by simp) I.f3, pick_at (by simp) I.f4, fun n hn => ?_, h6, I.f7⟩
  · intro x hx hxp
    simp only [List.mem_cons, List.mem_map] at hx
    rcases hx with hx | hx | hx | hx | ⟨y, hy, hx⟩
    · exact absurd hx hxp
    · subst hx; exact I.g2
    · subst hx; exact I.g3
    · subst hx; exact I.g4
    · subst hx; exact I.f9 y hy
  · have hn' : n ∈ W.people := hn
    have z := I.f5 n hn'
    unfold WebD.rcI at z
    rw [List.take_length, if_pos hn'] at z
    exact pick_at (by simp only [List.mem_cons, List.mem_map]; exact .inr (.inr (.inr (.inr ⟨n, hn', rfl⟩)))) z
def tpSet (K : PySem.W.Frag) : TSp := fun ds A Q E => ∃ p lp W, ∃ (a b : Str) (v : Bool), ds = [.ref p, pr (a, b), .bl v] ∧ A p = some (.abs (isWeb (cW K) lp p W)) ∧ W.ok ∧ (a ∈ W.people → b ∈ W.people → v = true → Q .non (updA A p (.abs (isWeb (cW K) lp p (W.tie a b))))) ∧
  (a ∉ W.people → E (.ref (He.ga K "NoPerson")) [("name", .str a)] A) ∧ (a ∈ W.people → b ∉ W.people → E (.ref (He.ga K "NoPerson")) [("name", .str b)] A) ∧ (a ∈ W.people → b ∈ W.people → v = false → E (.ref (He.ga K "TakenBack")) [("person", .str b), ("actor", .str a)] A)
theorem sc_wset : FnScope N_Web_setitem ["self", "pair", "value"] (defScope s_Web_setitem) := ⟨rfl, rfl, rfl, by decide +kernel, rfl, by decide +kernel, by decide +kernel⟩
theorem body_wset (G : WebK K mg) (XX : WebX P w K mg base) (F : FnT P w K mg base 3 (wm K "need") (tpNeedS K)) : BodyT P w K mg base N_Web_setitem (defScope s_Web_setitem) 3 (defBody s_Web_setitem) (tpSet K) := by
  intro X bd ds A Q ET hx ⟨p, lp, W, a, b, v, e, hp, ok, q, ea, eb, ev⟩
  obtain ⟨rfl, rfl, rfl, rfl, rfl, B, room, _, _⟩ := bd
  subst e
  have u1 : X.A.units + 1 < cLine := by have := room.units; omega
  have u2 : X.A.units + 0 < cLine := by have := room.units; omega
  have u3 : X.A.units + 1 + 0 < cLine := by have := room.units; omega
  have u4 : X.A.units + 1 + (Nat.max 0 0 + 1) < cLine := by have := room.units; show _ + 1 + (0 + 1) < _; omega
  refine wpb_cons (wps_asg (Ev.wp (B.nm (i := 1) rfl rfl (.inl rfl)) (B.tt (B.tns (i := 3) rfl (.inl rfl) (B.tns (i := 4) rfl (.inl rfl) (wpgs_nil ?_))))))
  refine wpb_cons (wps_expr (wpe_meth (ET := ET) G.cls G.mneed F room hx.at_.p (Ev.wp (B.nm (i := 0) rfl rfl (.inl rfl)) ⟨p, rfl, web_insT hp fun _ _ _ => rfl, EvA.wp (eva_cons (B.nm (i := 3) rfl rfl (.inl rfl)) (eva_cons (B.nm (i := 4) rfl rfl (.inl rfl)) eva_nil)) (need_two (a := a) (b := b) hp (fun ha hb => ?_) ea eb)⟩)))
  refine WPB.open_ hp fun m hm hmp hn => ?_
  obtain ⟨lt, lr, ad, h1, h2, h3, h4, h5, h6, h7⟩ := id hm
  have o1 := over_some (A := A) h1
  have o2 := over_some (A := A) h2
  have o3 := over_some (A := A) h3
  have o4 := over_some (A := A) h4
  have o5 := fun x hx => over_some (A := A) (h5 x hx)
  have fr := Frm.open_ hn
  refine wpb_cons (wps_ifE (k := !v) (et_not (k := v) (et_val (B.nm (i := 2) rfl rfl (.inl rfl)))) (fun h => wpb_cons (XX.tb.raise B.toBC (room.mono (by decide)) hx.at_ rfl (EvA.wp (eva_cons (B.nm (i := 3) rfl rfl (.inl rfl)) (eva_cons (B.nm (i := 4) rfl rfl (.inl rfl)) eva_nil)) ⟨rfl, A, VwX.reclose hp hm hmp hn, ev ha hb (by simpa using h)⟩))) fun h => wpb_nil ?_)
  obtain rfl : v = true := (by simpa using h)
  have q := q ha hb rfl
  refine wpb_cons (wps_ifE (et_w (ew_or (et_cmp (B.nm (i := 3) rfl rfl (.inl rfl)) (B.nm (i := 4) rfl rfl (.inl rfl)) (opv_eq (x := a) (y := b) u2) rfl) fun _ => ew_or1 (et_cmp (B.nm (i := 1) rfl rfl (.inl rfl)) (ev_fld (B.nm (i := 0) rfl rfl (.inl rfl)) o1 rfl G.cls G.nT) (opv_inL (x := (a, b)) (ys := W.ties) o3 u4) rfl))) (fun hk => ?_) fun hk => wpb_nil ?_)
  · refine wpb_cons (wps_retN ⟨A, Vw.reclose hp hm hmp hn, ?_⟩)
    have e : W.tie a b = W := by
      unfold WebD.tie
      rw [if_pos (by simpa using hk)]
    rw [e, updA_self hp] at q
    exact q
  have hne : ¬ (a = b ∨ (a, b) ∈ W.ties) := by simpa using hk
  have tl : W.ties.length < sizeLine := by
    have z := len_le_of_sub (r := W.people.flatMap fun x => W.people.map fun y => (x, y)) ok.tnd fun t ht => by
      simp only [List.mem_flatMap, List.mem_map]
      exact ⟨t.1, (ok.tin t ht).1, t.2, (ok.tin t ht).2, rfl⟩
    have z2 : ∀ (l : List Str), (l.flatMap fun x => W.people.map fun y => (x, y)).length = l.length * W.people.length := fun l => by
      induction l with
      | nil => simp
      | cons x l ih => rw [List.flatMap_cons, List.length_append, ih, List.length_map, List.length_cons, Nat.succ_mul]; omega
    rw [z2] at z
    have z3 := Nat.mul_le_mul ok.len ok.len
    rw [sizeLine_eq]; omega
  refine wpb_cons (wps_expr (wpe_append (Ev.wp (ev_fld (B.nm (i := 0) rfl rfl (.inl rfl)) o1 rfl G.cls G.nT) ⟨lt, rfl, ⟨_, o3⟩, Ev.wp (ev_tup (eva_cons (B.nm (i := 3) rfl rfl (.inl rfl)) (eva_cons (B.nm (i := 4) rfl rfl (.inl rfl)) eva_nil)) (show 2 ≤ sizeLine by decide)) ⟨_, o3, by rw [List.length_map]; exact tl, ?_⟩⟩)))
  have n1 : p ≠ lt := ne_kind o1 o3 (by intro z; cases z)
  have n4 : lr ≠ lt := ne_kind o4 o3 (by intro z; cases z)
  generalize hv : (AO.prim (.lst (W.ties.map pr ++ [TL.D.tup [.str a, .str b]]))) = v
  have a1 := upd_ne' (u := v) o1 n1
  have a2 := upd_ne' (u := v) o2 h6
  have a3 : updA (over A m) lt v lt = _ := updA_same
  have a4 := upd_ne' (u := v) o4 n4
  have a5 := fun x hx => upd_ne' (u := v) (o5 x hx) (h7 x hx).2
  have fr2 := fr.upd (o := v) (hn lt _ (Ne.symm n1) h3)
  generalize updA (over A m) lt v = A2 at a1 a2 a3 a4 a5 fr2 ⊢
  refine wpb_cons (B.set (i := 5) rfl (.inl rfl) (Ev.wp (ev_dget (k := .inr b) u1 (ev_fld (B.nm (i := 0) rfl rfl (.inl rfl)) a1 rfl G.cls G.nR) (B.nm (i := 4) rfl rfl (.inl rfl)) a4 (by rw [valD_web, if_pos hb])) ?_))
  generalize hδ : ((((startD N_Web_setitem [.ref p, pr (a, b), .bl true]).set 3 (some (.str a))).set 4 (some (.str b))).set 5 (some (.ref (ad b)))) = δ0
  have I0 : SetI (cW X.K) lp p lt lr (ad b) W a b A 0 ad A2 := by
    refine ⟨a1, a2, ?_, a4, fun n hn => ?_, a5 b hb, h7, fr2, fun n hx => hn _ _ (fun z => ?_) (h5 n hx), hn _ _ (Ne.symm (ne_kind o1 o2 (by intro z; cases z))) h2, hn _ _ (Ne.symm n1) h3, hn _ _ (Ne.symm (ne_kind o1 o4 (by intro z; cases z))) h4⟩
    · rw [a3, ← hv, List.map_append]; rfl
    · have := a5 n hn
      simpa [WebD.rcI] using this
    · have := a5 n hx
      rw [z, a1] at this; cases this
  refine wpb_cons (B.for_ (wpi_list (Ev.wp (ev_fld (B.nm (i := 0) rfl (by rw [← hδ]; rfl) (.inl rfl)) a1 rfl G.cls G.nP) ⟨lp, _, rfl, a2, fun i δ' A' => ∃ ad' v6 v7, δ' = (δ0.set 6 v6).set 7 v7 ∧ SetI (cW X.K) lp p lt lr (ad b) W a b A i ad' A', ⟨ad, none, none, by rw [← hδ]; rfl, I0⟩, fun i δ' A' hi ⟨_, _, _, _, I⟩ => I.f2, fun i δ' A' hi ⟨ad', v6, v7, eδ, I⟩ => ?_, fun δ' A' ⟨ad', v6, v7, eδ, I⟩ => ?_⟩)))
  · have hi' : i < W.people.length := by simpa using hi
    have hmem := List.getElem_mem hi'
    have i5 := I.f5 _ hmem
    rw [rcI_old ok.nd hi'] at i5
    subst eδ hδ
    refine WPG.to (B.tn (i := 6) rfl (.inl rfl) ?_) (getD_map hi')
    generalize hnm : W.people[i] = n at *
    have ok1 := ok.rnd n hmem
    have ok2 := ok.rnd b hb
    have l1 := len_le_of_sub ok1.1 ok1.2
    have l2 := len_le_of_sub ok2.1 ok2.2
    have l24 := ok.len
    refine wpb_cons (B.set (i := 7) rfl (.inr rfl) (Ev.wp (ev_dget (d := .ref (ad' n)) (k := .inr n) u1 (ev_fld (B.nm (i := 0) rfl rfl (.inl rfl)) I.f1 rfl G.cls G.nR) (B.nm (i := 6) rfl rfl (.inl rfl)) I.f4 (by rw [valD_web, if_pos hmem])) ?_))
    refine wpb_cons (wps_ifE (et_cmp (B.nm (i := 3) rfl rfl (.inl rfl)) (B.nm (i := 7) rfl rfl (.inr (.inl rfl))) (opv_inL (x := a) (ys := W.rc n) i5 u3) rfl) (fun hk => ?_) fun hk => ?_)
    · have hk' : a ∈ W.rc n := of_decide_eq_true hk
      refine wpb_cons (wps_dput u1 (wpe_bin (Ev.wp (B.nm (i := 7) rfl rfl (.inr (.inl rfl))) (EvN.wp (BC.elc (own := [("other", 8)]) (ys := W.rc b) (en := fun x => .str x) (.one _) (fun x => decide (x ∉ W.rc n)) (fun x => .str x) B (by decide +kernel) (j := 8) rfl rfl (by decide) (evi_list (B.nm (i := 5) rfl rfl (.inl rfl)) I.f6) (by rw [sizeLine_eq]; omega)
        (fun x hx s H0 C cl fp => et_cmp (B.blk.nm (i := 8) rfl rfl (.inl rfl)) (B.blk.nm (d := .ref (ad' n)) (i := 7) rfl rfl (.inr (.inr rfl))) (opv_notInL (x := x) (ys := W.rc n) i5 u3) rfl)
        (fun x hx _ s H0 C cl fp => B.blk.nm (i := 8) rfl rfl (.inl rfl))) fun q1 hq1 => OpN.w (opn_cat (upd_new i5 hq1) updA_same ?_) fun r hr => Ev.wp (ev_fld (B.nm (i := 0) rfl rfl (.inl rfl)) (upd_new (upd_new I.f1 hq1) hr) rfl G.cls G.nR) (Ev.wp (B.nm (i := 6) rfl rfl (.inl rfl)) ⟨lr, _, .inr n, rfl, rfl, upd_new (upd_new I.f4 hq1) hr, ?_, ?_⟩)))))
      · rw [List.length_map, List.length_map, sizeLine_eq]
        have := List.length_filter_le (fun x => decide (x ∉ W.rc n)) (W.rc b)
        omega
      · rw [List.length_map, sizeLine_eq]; omega
      · refine wpb_nil (wpb_nil ⟨_, Vw.refl _, _, _, _, rfl, setI_step I hi' hnm hq1 hr ?_⟩)
        unfold WebD.rc'
        rw [if_pos hk', List.map_append]
    · have hk' : a ∉ W.rc n := of_decide_eq_false hk
      refine wpb_nil (wpb_nil ⟨A', Vw.refl _, ad', _, _, rfl, I.f1, I.f2, I.f3, I.f4, fun x hx => ?_, I.f6, I.f7, I.f8, I.f9, I.g2, I.g3, I.g4⟩)
      by_cases hxn : x = n
      · subst hxn
        have e := rcI_here (a := a) (b := b) hi'
        rw [hnm] at e
        rw [e, i5]
        unfold WebD.rc'
        rw [if_neg hk']
      · rw [rcI_next hi' (by rw [hnm]; exact hxn)]
        exact I.f5 x hx
  · rw [List.length_map] at I
    exact wpb_nil ⟨_, setI_close I h6 hne, q⟩
end TL
/-! webs: made, their ties read -/
namespace TL
open PySem PySem.Spec PyProof.Rows L2
variable {P : Program} {w : World} {K : PySem.W.Frag} {mg : Str → Option Value} {base : Heap} {k : Nat}
theorem Vw.reshut {A2 A' : AH} {m : MH} {p : Addr} {R : MH → Prop} (hm : ∀ b u, m b = some u → A2 b = some (.prim u)) (hp : ∃ u, m p = some u) (r : R m) (h : ∀ b o, A' b = some o → (b = p ∧ o = .abs R) ∨ (b ≠ p ∧ m b = none ∧ A2 b = some o)) : Vw A2 A' :=
  (Vw.shut (A := A2) (a := p) (m := m) (R := R) hm hp r).trans (Vw.sub fun b o e => by
    rcases h b o e with ⟨rfl, rfl⟩ | ⟨h1, h2, h3⟩
    · exact shut_same
    · rw [shut_none h1 h2]; exact h3)
/-- something new was laid beside what was opened -/
theorem Vw.reclose_new {A : AH} {m : MH} {p q : Addr} {o : AO} {R : MH → Prop} (e : A p = some (.abs R)) (r : R m) (hp : ∃ u, m p = some u) (hn : ∀ b u, b ≠ p → m b = some u → A b = none) (hq : over A m q = none) : Vw (updA (over A m) q o) (updA A q o) := by
  have mq : m q = none := by
    cases z : m q with
    | none => rfl
    | some u => rw [over_some z] at hq; cases hq
  have qp : q ≠ p := fun z => by
    obtain ⟨u, hu⟩ := hp
    rw [← z, mq] at hu; cases hu
  refine Vw.reshut (m := m) (p := p) (R := R) (fun b u h => upd_new (over_some h) hq) hp r fun b u h => ?_
  by_cases z : b = q
  · subst z
    rw [updA_same] at h
    cases h
    exact .inr ⟨qp, mq, updA_same⟩
  · rw [updA_ne z] at h
    by_cases z2 : b = p
    · subst z2; rw [e] at h; cases h; exact .inl ⟨rfl, rfl⟩
    · refine .inr ⟨z2, ?_, ?_⟩
      · cases z3 : m b with
        | none => rfl
        | some v => rw [hn b v z2 z3] at h; cases h
      · rw [updA_ne z]
        exact Frm.open_ hn b u z2 h
theorem over_none_of {A : AH} {m : MH} {q : Addr} (h : over A m q = none) : A q = none := by
  cases z : m q with
  | none => rw [over_none z] at h; exact h
  | some u => rw [over_some z] at h; cases h

def tpTies (K : PySem.W.Frag) : TSp := fun ds A Q E => ∃ p lp W, ds = [.ref p] ∧ A p = some (.abs (isWeb (cW K) lp p W)) ∧ ∀ q, A q = none → Q (.ref q) (updA A q (.prim (.lst (W.ties.map pr))))
theorem sc_wties : FnScope N_Web_ties ["self"] (defScope s_Web_ties) := ⟨rfl, rfl, rfl, by decide +kernel, rfl, by decide +kernel, by decide +kernel⟩
theorem body_wties (G : WebK K mg) : BodyT P w K mg base N_Web_ties (defScope s_Web_ties) 0 (defBody s_Web_ties) (tpTies K) := by
  intro X bd ds A Q ET hx ⟨p, lp, W, e, hp, q⟩
  obtain ⟨rfl, rfl, rfl, rfl, rfl, B, room, _, _⟩ := bd
  subst e
  refine WPB.open_ hp fun m hm hmp hn => ?_
  obtain ⟨lt, lr, ad, h1, h2, h3, h4, h5, h6, h7⟩ := id hm
  refine wpb_cons (wps_ret (B.callT rfl G.flist bt_list (EvA.wp (eva_cons (ev_fld (B.nm (i := 0) rfl rfl (.inl rfl)) (over_some h1) rfl G.cls G.nT) eva_nil) (caw_list (.inl (over_some h3)) fun l hl => ⟨_, Vw.reclose_new hp hm hmp hn hl, q l (over_none_of hl)⟩))))

def web0 : WebD := ⟨[], [], fun _ => []⟩
def webOf (ns : List Str) : WebD := ns.foldl WebD.add web0
theorem foldl_people : ∀ (ns : List Str) (W : WebD), (ns.foldl WebD.add W).people = W.people ++ ns
  | [], W => by simp
  | n :: r, W => by rw [List.foldl_cons, foldl_people r]; simp [WebD.add]
theorem webOf_people (ns : List Str) : (webOf ns).people = ns := by unfold webOf; rw [foldl_people]; simp [web0]
/-- names that a web takes -/
def goodTo (ns : List Str) : Prop := ns.Nodup ∧ ns.length ≤ 24 ∧ ∀ n ∈ ns, isName n = true
theorem goodTo.snoc {ns : List Str} {n : Str} (h : goodTo ns) (hn : isName n = true) (hnew : n ∉ ns) (hl : ns.length < 24) : goodTo (ns ++ [n]) := by
  refine ⟨List.nodup_append.mpr ⟨h.1, by simp, fun x hx y hy e => ?_⟩, by rw [List.length_append]; simp; omega, fun x hx => ?_⟩
  · have : y = n := by simpa using hy
    subst this; subst e; exact hnew hx
  · rcases List.mem_append.mp hx with hx | hx
    · exact h.2.2 x hx
    · have : x = n := by simpa using hx
      subst this; exact hn
/-- without p -/
def cutA (A : AH) (p : Addr) : AH := fun b => if b = p then none else A b
theorem cut_new {A : AH} {p : Addr} {o : AO} (h : A p = none) : cutA (updA A p o) p = A := by
  funext b
  unfold cutA
  by_cases q : b = p
  · subst q; rw [if_pos rfl, h]
  · rw [if_neg q, updA_ne q]
theorem cut_sub {A : AH} {p : Addr} {o : AO} : Sub (cutA A p) (updA A p o) := fun b u h => by
  unfold cutA at h
  by_cases q : b = p
  · rw [if_pos q] at h; cases h
  · rw [if_neg q] at h; rw [updA_ne q]; exact h
def tpInit (K : PySem.W.Frag) : TSp := fun ds A Q E => ∃ p, ∃ ns : List Str, ds = [.ref p, .tup (ns.map .str)] ∧ A p = some (.prim (.ins (cW K) [])) ∧ (∀ n ∈ ns, n.length ≤ sizeLine) ∧ (goodTo ns → ∀ lp, A lp = none → Q .non (updA A p (.abs (isWeb (cW K) lp p (webOf ns))))) ∧
  ∀ pre n post, ns = pre ++ n :: post → goodTo pre → (isName n = false → E (.ref (He.ga K "NoName")) [("text", .str n)] (cutA A p)) ∧ (isName n = true → n ∈ pre → E (.ref (He.ga K "AlreadyThere")) [("name", .str n)] (cutA A p)) ∧ (isName n = true → n ∉ pre → pre.length = 24 → E (.ref (He.ga K "TooMany")) [] (cutA A p))
theorem sc_winit : FnScope N_Web_init ([("self" : Str)] ++ [("people" : Str)]) (defScope s_Web_init) := ⟨rfl, rfl, rfl, by decide +kernel, rfl, by decide +kernel, by decide +kernel⟩
theorem putA_ties {x y : TL.D} : putA "_ties" y [(("_people" : Str), x)] = [(("_people" : Str), x), (("_ties" : Str), y)] := by
  unfold putA; rw [if_neg (by decide)]; rfl
theorem putA_reach {x y z : TL.D} : putA "_reach" z [(("_people" : Str), x), ("_ties", y)] = [(("_people" : Str), x), (("_ties" : Str), y), (("_reach" : Str), z)] := by
  unfold putA; rw [if_neg (by decide)]
  unfold putA; rw [if_neg (by decide)]; rfl
theorem body_winit (G : WebK K mg) (F : FnT P w K mg base 4 (wm K "welcome") (tpWelcome K)) : BodyT P w K mg base N_Web_init (defScope s_Web_init) 4 (defBody s_Web_init) (tpInit K) := by
  intro X bd ds A Q ET hx ⟨p, ns, e, hp, hlen, q, he⟩
  obtain ⟨rfl, rfl, rfl, rfl, rfl, B, room, _, _⟩ := bd
  subst e
  refine wpb_cons (wps_fld (EvN.wp (evn_lst eva_nil (show 0 ≤ sizeLine by decide)) fun l1 hl1 => Ev.wp (B.nm (i := 0) rfl rfl (.inl rfl)) ⟨p, _, _, rfl, upd_new hp hl1, G.cls, G.nP, by decide, ?_⟩))
  refine wpb_cons (wps_fld (EvN.wp (evn_lst eva_nil (show 0 ≤ sizeLine by decide)) fun l2 hl2 => Ev.wp (B.nm (i := 0) rfl rfl (.inl rfl)) ⟨p, _, _, rfl, upd_new updA_same hl2, G.cls, G.nT, by show 1 < 1000; decide, ?_⟩))
  refine wpb_cons (wps_fld (EvN.wp evn_dict fun l3 hl3 => Ev.wp (B.nm (i := 0) rfl rfl (.inl rfl)) ⟨p, _, _, rfl, upd_new updA_same hl3, G.cls, G.nR, by rw [show putA "_people" (.ref l1) [] = [(("_people" : Str), TL.D.ref l1)] from rfl, putA_ties]; show 2 < 1000; decide, ?_⟩))
  have np1 : p ≠ l1 := fun z => by rw [z, hl1] at hp; cases hp
  have e1 : updA (updA A l1 (.prim (.lst []))) p (.prim (.ins (cW X.K) (putA "_people" (.ref l1) []))) l1 = some (.prim (.lst [])) := upd_ne' updA_same (Ne.symm np1)
  have np2 : p ≠ l2 := fun z => by rw [← z, updA_same] at hl2; cases hl2
  have n12 : l1 ≠ l2 := fun z => by rw [← z, e1] at hl2; cases hl2
  have e2 := upd_ne' (u := .prim (.ins (cW X.K) (putA "_ties" (.ref l2) (putA "_people" (.ref l1) [])))) (upd_new (u := .prim (.lst [])) e1 hl2) (Ne.symm np1)
  have e3 : updA (updA (updA (updA A l1 (.prim (.lst []))) p (.prim (.ins (cW X.K) (putA "_people" (.ref l1) [])))) l2 (.prim (.lst []))) p (.prim (.ins (cW X.K) (putA "_ties" (.ref l2) (putA "_people" (.ref l1) [])))) l2 = some (.prim (.lst [])) := upd_ne' updA_same (Ne.symm np2)
  have np3 : p ≠ l3 := fun z => by rw [← z, updA_same] at hl3; cases hl3
  have fr : Frm A (updA (updA (updA (updA A l1 (.prim (.lst []))) p (.prim (.ins (cW X.K) (putA "_people" (.ref l1) [])))) l2 (.prim (.lst []))) p (.prim (.ins (cW X.K) (putA "_ties" (.ref l2) (putA "_people" (.ref l1) []))))) p := fun b o hb h => by
    have s1 := upd_ne' (u := .prim (.ins (cW X.K) (putA "_people" (.ref l1) []))) (upd_new (u := .prim (.lst [])) h hl1) hb
    exact upd_ne' (upd_new s1 hl2) hb
  have fl1 : A l1 = none := hl1
  have fl2 : A l2 = none := by
    cases z : A l2 with
    | none => rfl
    | some u =>
      have s1 := upd_ne' (u := .prim (.ins (cW X.K) (putA "_people" (.ref l1) []))) (upd_new (u := .prim (.lst [])) z hl1) (Ne.symm np2)
      rw [s1] at hl2; cases hl2
  have fl3 : A l3 = none := fr.none updA_same hl3
  have e6 := upd_ne' (u := .prim (.ins (cW X.K) (putA "_reach" (.ref l3) (putA "_ties" (.ref l2) (putA "_people" (.ref l1) []))))) (upd_new (u := .prim (.dK [])) e2 hl3) (Ne.symm np1)
  have e7 := upd_ne' (u := .prim (.ins (cW X.K) (putA "_reach" (.ref l3) (putA "_ties" (.ref l2) (putA "_people" (.ref l1) []))))) (upd_new (u := .prim (.dK [])) e3 hl3) (Ne.symm np2)
  have fr3 := fr.upd (o := .prim (.dK [])) fl3
  generalize hA3 : updA (updA (updA (updA A l1 (.prim (.lst []))) p (.prim (.ins (cW X.K) (putA "_people" (.ref l1) [])))) l2 (.prim (.lst []))) p (.prim (.ins (cW X.K) (putA "_ties" (.ref l2) (putA "_people" (.ref l1) [])))) = A3 at *
  have e8 : updA (updA A3 l3 (.prim (.dK []))) p (.prim (.ins (cW X.K) (putA "_reach" (.ref l3) (putA "_ties" (.ref l2) (putA "_people" (.ref l1) []))))) p = some (.prim (.ins (cW X.K) [("_people", .ref l1), ("_ties", .ref l2), ("_reach", .ref l3)])) := by
    rw [updA_same, show putA "_people" (.ref l1) [] = [(("_people" : Str), TL.D.ref l1)] from rfl, putA_ties, putA_reach]
  have e9 : updA (updA A3 l3 (.prim (.dK []))) p (.prim (.ins (cW X.K) (putA "_reach" (.ref l3) (putA "_ties" (.ref l2) (putA "_people" (.ref l1) []))))) l3 = some (.prim (.dK [])) := upd_ne' updA_same (Ne.symm np3)
  have fr4 : Frm A (updA (updA A3 l3 (.prim (.dK []))) p (.prim (.ins (cW X.K) (putA "_reach" (.ref l3) (putA "_ties" (.ref l2) (putA "_people" (.ref l1) [])))))) p := fun b o hb h => upd_ne' (fr3 b o hb h) hb
  generalize updA (updA A3 l3 (.prim (.dK []))) p (.prim (.ins (cW X.K) (putA "_reach" (.ref l3) (putA "_ties" (.ref l2) (putA "_people" (.ref l1) []))))) = A4 at e6 e7 e8 e9 fr4 ⊢
  have vw : Vw A4 (updA A p (.abs (isWeb (cW X.K) l1 p web0))) := by
    refine Vw.close (S := [p, l1, l2, l3]) ?_ fr4 List.mem_cons_self ⟨_, e8⟩ ⟨l2, l3, fun _ => 0, pick_at (by simp) e8, pick_at (by simp) e6, pick_at (by simp) e7, pick_at (by simp) e9, fun n hn => (nomatch hn), n12, fun n hn => (nomatch hn)⟩
    intro x hx hxp
    simp only [List.mem_cons, List.not_mem_nil, or_false] at hx
    rcases hx with hx | hx | hx | hx
    · exact absurd hx hxp
    · subst hx; exact fl1
    · subst hx; exact fl2
    · subst hx; exact fl3
  refine WPB.vw vw ?_
  refine wpb_cons (B.for_ (wpi_tup (Ev.wp (B.nm (i := 1) rfl rfl (.inl rfl)) ⟨_, rfl, fun i δ' A' => A' = updA A p (.abs (isWeb (cW X.K) l1 p (webOf (ns.take i)))) ∧ goodTo (ns.take i) ∧ ∃ v, δ' = (startD N_Web_init [.ref p, .tup (ns.map .str)]).set 2 v, ⟨rfl, ⟨by simp, by simp, by simp⟩, none, rfl⟩, fun _ _ _ _ _ => trivial, fun i δ' A' hi ⟨eA, hg, v, eδ⟩ => ?_, fun δ' A' ⟨eA, hg, v, eδ⟩ => ?_⟩)))
  · subst eA eδ
    have hi' : i < ns.length := by simpa using hi
    have hmem := List.getElem_mem hi'
    obtain ⟨he1, he2, he3⟩ := he (ns.take i) ns[i] (ns.drop (i + 1)) (by simp) hg
    refine WPG.to (B.tn (i := 2) rfl (.inl rfl) ?_) (getD_map hi')
    refine wpb_cons (wps_expr (wpe_meth (ET := fun cls fs A' => A' = updA A p (.abs (isWeb (cW X.K) l1 p (webOf (ns.take i)))) ∧ ET cls fs (cutA A p)) G.cls G.mwel F room (TakesD.p (hx.at_.vw fun cls fs A' ⟨eA, h⟩ => ⟨cutA A p, by subst eA; exact VwX.sub cut_sub, h⟩)) (Ev.wp (B.nm (i := 0) rfl rfl (.inl rfl)) ⟨p, rfl, web_insT updA_same fun _ _ _ => rfl, EvA.wp (eva_cons (B.nm (i := 2) rfl rfl (.inl rfl)) eva_nil) ⟨p, l1, webOf (ns.take i), ns[i], rfl, updA_same, hlen _ hmem, by rw [webOf_people]; exact hg.2.1, fun hnm hnew h24 => ?_, fun h => ⟨rfl, he1 h⟩, fun h1 h2 => ⟨rfl, he2 h1 (by rw [webOf_people] at h2; exact h2)⟩, fun h1 h2 h3 => ⟨rfl, he3 h1 (by rw [webOf_people] at h2; exact h2) (by rw [webOf_people] at h3; exact h3)⟩⟩⟩)))
    rw [webOf_people] at hnew h24
    refine wpb_nil ⟨_, Vw.refl _, ?_, ?_, some (.str ns[i]), by rw [List.set_set]⟩
    · rw [updA_updA, take_snoc (List.getElem?_eq_getElem hi')]
      unfold webOf
      rw [List.foldl_append]; rfl
    · rw [take_snoc (List.getElem?_eq_getElem hi')]
      exact hg.snoc hnm hnew h24
  · subst eA
    rw [List.length_map, List.take_length] at hg ⊢
    exact wpb_nil (RV.mk (q hg l1 fl1))
end TL
/-! the law's drawing: the tape, names, ties -/
namespace TL
open PySem PySem.Spec PyProof.Rows L2
variable {P : Program} {w : World} {K : PySem.W.Frag} {mg : Str → Option Value} {base : Heap} {k : Nat}

structure GF (K : PySem.W.Frag) (mg : Str → Option Value) (nm : Str) : Prop where
  g : mg nm = some (.ref (He.ga K nm))
  k : PySem.W.keepIn K (.ref (He.ga K nm)) = true
/-- the built-in names that stay free -/
structure Free (mg : Str → Option Value) : Prop where
  len : mg "len" = none
  int : mg "int" = none
  range : mg "range" = none
  list : mg "list" = none
  isi : mg "isinstance" = none

theorem atI_pos {α : Type} {xs : List α} {i : Int} (h0 : 0 ≤ i) (h : i.toNat < xs.length) : atI xs i = some xs[i.toNat] := by
  unfold atI ixN
  rw [if_pos h0, if_pos (by omega)]
  simp [h]
theorem atI_map {α β : Type} {f : α → β} {xs : List α} {i : Int} (h0 : 0 ≤ i) (h : i.toNat < xs.length) : atI (xs.map f) i = some (f xs[i.toNat]) := by
  rw [atI_pos h0 (by rw [List.length_map]; exact h)]
  simp
def tpCell (K : PySem.W.Frag) : TSp := fun ds A Q E => ∃ a, ∃ ns : List Int, ∃ i : Int, ds = [.ref a, .int i] ∧ RdL K A a (ns.map .int) ∧ 0 ≤ i ∧ ∀ c : Int, Q (.int c) A
theorem sc_cell : FnScope N_law_cell ["_law_script", "_law_k"] (defScope s_law_cell) := ⟨rfl, rfl, rfl, by decide +kernel, rfl, by decide +kernel, by decide +kernel⟩
theorem body_cell (G : Free mg) : BodyT P w K mg base N_law_cell (defScope s_law_cell) 0 (defBody s_law_cell) (tpCell K) := by
  intro X bd ds A Q ET hx ⟨a, ns, i, e, ha, hi, q⟩
  obtain ⟨rfl, rfl, rfl, rfl, rfl, B, room, _, _⟩ := bd
  subst e
  refine wpb_cons (wps_ifE (et_cmp (B.nm (i := 1) rfl rfl (.inl rfl)) (B.eB rfl G.len bt_len (eva_cons (B.nm (i := 0) rfl rfl (.inl rfl)) eva_nil) (cav_len ha)) opv_lt rfl) (fun hk => ?_) fun hk => wpb_nil ?_)
  · have hk' := of_decide_eq_true hk
    rw [List.length_map] at hk'
    have hlt : i.toNat < ns.length := by omega
    refine wpb_cons (wps_ret (Ev.wp (B.eT rfl G.int bt_int (eva_cons (ev_ix (B.nm (i := 0) rfl rfl (.inl rfl)) (B.nm (i := 1) rfl rfl (.inl rfl)) (ixv_list ha (atI_map hi hlt))) eva_nil) cav_int) (RV.mk (q _))))
  · exact wpb_cons (wps_ret (Ev.wp ev_int (RV.mk (q 0))))

theorem bnd_mix {x y : Int} (hx : 0 ≤ x) (hx2 : x < 1009) (hy : 0 ≤ y) (hy2 : y < 997) : 0 ≤ y + x * (y + 3) * 104729 ∧ y + x * (y + 3) * 104729 < 10 ^ 13 := by
  have h1 : 0 ≤ x * (y + 3) := Int.mul_nonneg hx (by omega)
  have h2 : x * (y + 3) ≤ 1009 * 1000 := Int.mul_le_mul (by omega) (by omega) (by omega) (by omega)
  constructor <;> omega
def tapeOk (ts : List Int) : Prop := ∀ t ∈ ts, 0 ≤ t ∧ t < 10 ^ 13
def tpTape (K : PySem.W.Frag) : TSp := fun ds A Q E => ∃ a, ∃ ns : List Int, ∃ i n : Int, ds = [.ref a, .int i, .int n] ∧ RdL K A a (ns.map .int) ∧ 0 ≤ i ∧ i < 100 ∧ 0 ≤ n ∧ n < 1000 ∧
  ∀ ts q, ts.length = n.toNat → tapeOk ts → A q = none → Q (.ref q) (updA A q (.prim (.lst (ts.map .int))))
theorem sc_tape : FnScope N_law_tape ["_law_script", "_law_spot", "_law_count"] (defScope s_law_tape) := ⟨rfl, rfl, rfl, by decide +kernel, rfl, by decide +kernel, by decide +kernel⟩
theorem body_tape (G : Free mg) (gc : GF K mg "_law_cell") (F : FnT P w K mg base 1 (He.ga K "_law_cell") (tpCell K)) : BodyT P w K mg base N_law_tape (defScope s_law_tape) 1 (defBody s_law_tape) (tpTape K) := by
  intro X bd ds A Q ET hx ⟨a, ns, i, n, e, ha, hi, hi2, hn, hn2, q⟩
  obtain ⟨rfl, rfl, rfl, rfl, rfl, B, room, _, _⟩ := bd
  subst e
  have e18 : ∀ {δ : Ds} {A : AH} {p1 p2 p3 : Pos} {j1 j2}, Ev X (.BinOp (.Constant (.int 10) j1 p1) .Pow (.Constant (.int 18) j2 p2) p3) δ A (.int (10 ^ 18)) := Ev.to (ev_bin ev_int ev_int (opv_pow ⟨by decide, by decide, by decide⟩)) rfl
  have e13 : ∀ {δ : Ds} {A : AH} {p1 p2 p3 : Pos} {j1 j2}, Ev X (.BinOp (.Constant (.int 10) j1 p1) .Pow (.Constant (.int 13) j2 p2) p3) δ A (.int (10 ^ 13)) := Ev.to (ev_bin ev_int ev_int (opv_pow ⟨by decide, by decide, by decide⟩)) rfl
  refine wpb_cons (B.set (i := 3) rfl (.inl rfl) (B.call (ET := NoX) F room rfl gc.g gc.k pass0 (EvA.wp (eva_cons (B.nm (i := 0) rfl rfl (.inl rfl)) (eva_cons (B.nm (i := 1) rfl rfl (.inl rfl)) eva_nil)) ⟨a, ns, i, rfl, ha, hi, fun c => ?_⟩)))
  refine wpb_cons (B.set (i := 4) rfl (.inl rfl) (Ev.wp (ev_bin (B.nm (i := 3) rfl rfl (.inl rfl)) e18 opv_sub) ?_))
  refine wpb_cons (B.set (i := 5) rfl (.inl rfl) (Ev.wp (ev_bin (B.eT rfl G.int bt_int (eva_cons (B.nm (i := 3) rfl rfl (.inl rfl)) eva_nil) cav_int) ev_int (opv_mod (by decide))) ?_))
  refine wpb_cons (B.set (i := 6) rfl (.inl rfl) (EvN.wp (evn_lst eva_nil (show 0 ≤ sizeLine by decide)) fun l hl => ?_))
  refine wpb_cons (B.for_ (wpi_range1 B.toBC rfl G.range (Ev.wp (B.nm (i := 2) rfl rfl (.inl rfl)) ⟨n, rfl, by omega, by omega, fun j δ' A' => ∃ (ts : List Int) (r : Int) (v7 v8 : Option TL.D), ts.length = j ∧ tapeOk ts ∧ A' = updA A l (.prim (.lst (ts.map .int))) ∧
    δ' = [some (.ref a), some (.int i), some (.int n), some (.int c), some (.int r), some (.int (c % 2147483647)), some (.ref l), v7, v8], ⟨[], c - 10 ^ 18, none, none, rfl, (fun _ h => nomatch h), rfl, rfl⟩, fun _ _ _ _ _ => trivial, fun j δ' A' hj ⟨ts, r, v7, v8, h1, h2, eA, eδ⟩ => ?_, fun δ' A' ⟨ts, r, v7, v8, h1, h2, eA, eδ⟩ => ?_⟩)))
  · subst eA eδ
    refine WPG.to (B.tn (d := .int j) (i := 7) rfl (.inl rfl) ?_) (by simp)
    refine wpb_cons (wps_ifE (et_cmp (B.nm (i := 3) rfl rfl (.inl rfl)) e18 opv_ge rfl) (fun hk => ?_) fun hk => ?_)
    · refine wpb_cons (wps_expr (wpe_append (Ev.wp (B.nm (i := 6) rfl rfl (.inl rfl)) ⟨l, rfl, ⟨_, updA_same⟩, Ev.wp (ev_bin (B.eT rfl G.int bt_int (eva_cons (B.nm (i := 4) rfl rfl (.inl rfl)) eva_nil) cav_int) e13 (opv_mod (by decide))) ⟨_, updA_same, by rw [List.length_map, sizeLine_eq]; omega, ?_⟩⟩)))
      refine wpb_cons (B.set (i := 4) rfl (.inl rfl) (Ev.wp (ev_bin (B.nm (i := 4) rfl rfl (.inl rfl)) e13 (opv_fdivW ⟨by decide, by decide⟩)) ?_))
      refine wpb_nil (wpb_nil ⟨_, Vw.refl _, ts ++ [r % 10 ^ 13], r / 10 ^ 13, some (.int j), v8, by simp [h1], ?_, by rw [updA_updA, List.map_append]; rfl, rfl⟩)
      intro t ht
      rcases List.mem_append.mp ht with ht | ht
      · exact h2 t ht
      · rw [List.mem_singleton] at ht
        subst ht
        exact ⟨Int.emod_nonneg _ (by decide), Int.emod_lt_of_pos _ (by decide)⟩
    · refine wpb_cons (B.set (i := 8) rfl (.inl rfl) (Ev.wp (ev_bin (B.eT rfl G.int bt_int (eva_cons (ev_bin (ev_bin (ev_bin (ev_bin (B.nm (i := 5) rfl rfl (.inl rfl)) ev_int (opv_mul (.inr ⟨by decide, by decide⟩))) (ev_bin (B.nm (i := 7) rfl rfl (.inl rfl)) ev_int (opv_mul (.inr ⟨by decide, by decide⟩))) opv_add) (ev_bin (B.nm (i := 1) rfl rfl (.inl rfl)) ev_int (opv_mul (.inr ⟨by decide, by decide⟩))) opv_add) ev_int opv_add) eva_nil) cav_int) ev_int (opv_mod (by decide))) ?_))
      generalize hM : (c % 2147483647 * 31 + (j : Int) * 57 + i * 91 + 27) % 991 = M
      have hM1 : 0 ≤ M ∧ M < 991 := by omega
      refine wpb_cons (B.set (i := 8) rfl (.inl rfl) (Ev.wp (ev_bin (B.eT rfl G.int bt_int (eva_cons (ev_bin (ev_bin (ev_bin (ev_bin (B.nm (i := 8) rfl rfl (.inl rfl)) (B.nm (i := 8) rfl rfl (.inl rfl)) (opv_mul (.inr ⟨by omega, by omega⟩))) (ev_bin (B.nm (i := 8) rfl rfl (.inl rfl)) ev_int (opv_mul (.inr ⟨by decide, by decide⟩))) opv_add) (ev_bin (B.nm (i := 7) rfl rfl (.inl rfl)) ev_int (opv_mul (.inr ⟨by decide, by decide⟩))) opv_add) ev_int opv_add) eva_nil) cav_int) ev_int (opv_mod (by decide))) ?_))
      generalize hM' : (M * M + M * 5 + (j : Int) * 11 + 2) % 997 = M'
      have hM2 : 0 ≤ M' ∧ M' < 997 := by omega
      refine wpb_cons (wps_expr (wpe_append (Ev.wp (B.nm (i := 6) rfl rfl (.inl rfl)) ⟨l, rfl, ⟨_, updA_same⟩, Ev.wp (ev_bin (B.nm (i := 8) rfl rfl (.inl rfl)) (ev_bin (ev_bin (ev_bin (B.eT rfl G.int bt_int (eva_cons (B.nm (i := 5) rfl rfl (.inl rfl)) eva_nil) cav_int) ev_int (opv_mod (by decide))) (ev_bin (B.nm (i := 8) rfl rfl (.inl rfl)) ev_int opv_add) (opv_mul (.inr ⟨by omega, by omega⟩))) ev_int (opv_mul (.inr ⟨by decide, by decide⟩))) opv_add) ⟨_, updA_same, by rw [List.length_map, sizeLine_eq]; omega, ?_⟩⟩)))
      refine wpb_nil (wpb_nil ⟨_, Vw.refl _, ts ++ [M' + c % 2147483647 % 1009 * (M' + 3) * 104729], r, some (.int j), some (.int M'), by simp [h1], ?_, by rw [updA_updA, List.map_append]; rfl, rfl⟩)
      intro t ht
      rcases List.mem_append.mp ht with ht | ht
      · exact h2 t ht
      · rw [List.mem_singleton] at ht
        subst ht
        exact bnd_mix (by omega) (by omega) hM2.1 hM2.2
  · subst eA eδ
    exact wpb_cons (wps_ret (Ev.wp (B.nm (i := 6) rfl rfl (.inl rfl)) (RV.mk (q ts l h1 h2 hl))))
end TL
/-! the law's drawing: names, ties -/
namespace TL
open PySem PySem.Spec PyProof.Rows L2
variable {P : Program} {w : World} {K : PySem.W.Frag} {mg : Str → Option Value} {base : Heap} {k : Nat}

/-- _law_name -/
def tpName : TSp := fun ds A Q E => ∃ n : Int, ds = [.int n] ∧ 0 ≤ n ∧ ∀ z : Str, isName z = true → z.length ≤ 8 → Q (.str z) A
theorem sc_name : FnScope N_law_name ["_law_number"] (defScope s_law_name) := ⟨rfl, rfl, rfl, by decide +kernel, rfl, by decide +kernel, by decide +kernel⟩
theorem letters_len : letters.length = 26 := by decide +kernel
theorem letters_at {i : Nat} (h : i < 26) : i < letters.cps.toList.length := by rw [show letters.cps.toList.length = 26 by decide +kernel]; exact h
def okName (i : Nat) (z : Str) : Prop := z.length = i ∧ (z.cps.toList.all fun c => decide (c ∈ letters.cps.toList)) = true
theorem okName_snoc {i : Nat} {z : Str} {ch : Nat} (h : okName i z) (hc : ch ∈ letters.cps.toList) : okName (i + 1) (z ++ ⟨#[ch]⟩) := by
  obtain ⟨h1, h2⟩ := h
  have e : (z ++ (⟨#[ch]⟩ : Str)).cps = z.cps ++ #[ch] := rfl
  refine ⟨?_, ?_⟩
  · show (z ++ (⟨#[ch]⟩ : Str)).cps.size = i + 1
    rw [e, Array.size_append]
    show z.length + 1 = _
    rw [h1]
  · rw [e, Array.toList_append, List.all_append, h2, Bool.true_and]
    show ((decide (ch ∈ letters.cps.toList)) && true) = true
    rw [Bool.and_true]; exact decide_eq_true hc
theorem isName_of {i : Nat} {z : Str} (h : okName i z) (h1 : 1 ≤ i) (h8 : i ≤ 8) : isName z = true := by
  unfold isName
  rw [h.2, h.1]
  simp; omega
theorem body_name (G : Free mg) : BodyT P w K mg base N_law_name (defScope s_law_name) 1 (defBody s_law_name) tpName := by
  intro X bd ds A Q ET hx ⟨n, e, hn, q⟩
  obtain ⟨rfl, rfl, rfl, rfl, rfl, B, room, _, _⟩ := bd
  subst e
  refine wpb_cons (B.set (i := 1) rfl (.inl rfl) (Ev.wp ev_str ?_))
  refine wpb_cons (B.set (i := 2) rfl (.inl rfl) (Ev.wp (ev_bin (ev_bin (B.nm (i := 0) rfl rfl (.inl rfl)) ev_int (opv_fdiv ⟨by decide, by decide⟩)) ev_int (opv_mul (.inr ⟨by decide, by decide⟩))) ?_))
  refine wpb_cons (B.set (i := 3) rfl (.inl rfl) (Ev.wp ev_str ?_))
  refine wpb_cons (B.for_ (wpi_range1 B.toBC rfl G.range (Ev.wp (ev_bin ev_int (ev_bin (B.eT rfl G.int bt_int (eva_cons (B.nm (i := 0) rfl rfl (.inl rfl)) eva_nil) cav_int) ev_int (opv_mod (by decide))) opv_add) ⟨_, rfl, by omega, by omega, fun j δ' A' => ∃ (r : Int) (z : Str) (v4 : Option TL.D), okName j z ∧ A' = A ∧
    δ' = [some (.int n), some (.str letters), some (.int r), some (.str z), v4], ⟨_, _, none, ⟨rfl, rfl⟩, rfl, rfl⟩, fun _ _ _ _ _ => trivial, fun j δ' A' hj ⟨r, z, v4, h1, eA, eδ⟩ => ?_, fun δ' A' ⟨r, z, v4, h1, eA, eδ⟩ => ?_⟩)))
  · subst eA eδ
    refine WPG.to (B.tn (d := .int j) (i := 4) rfl (.inl rfl) ?_) (by simp)
    have hr : 0 ≤ r % 26 ∧ r % 26 < 26 := ⟨Int.emod_nonneg _ (by decide), Int.emod_lt_of_pos _ (by decide)⟩
    have hlt : (r % 26).toNat < letters.cps.toList.length := letters_at (by omega)
    refine wpb_cons (B.set (i := 3) rfl (.inl rfl) (Ev.wp (ev_bin (B.nm (i := 3) rfl rfl (.inl rfl)) (ev_ix (B.nm (i := 1) rfl rfl (.inl rfl)) (ev_bin (B.eT rfl G.int bt_int (eva_cons (B.nm (i := 2) rfl rfl (.inl rfl)) eva_nil) cav_int) ev_int (opv_mod (by decide))) (ixv_str (by rw [letters_len, sizeLine_eq]; decide) (atI_pos hr.1 hlt))) (opv_adds (by rw [h1.1, sizeLine_eq]; show j + 1 ≤ _; omega))) ?_))
    refine wpb_cons (B.set (i := 2) rfl (.inl rfl) (Ev.wp (ev_bin (B.nm (i := 2) rfl rfl (.inl rfl)) ev_int (opv_fdiv ⟨by decide, by decide⟩)) ?_))
    exact wpb_nil ⟨_, Vw.refl _, _, _, some (.int j), okName_snoc h1 (List.getElem_mem hlt), rfl, rfl⟩
  · subst eA eδ
    have e := h1.1
    refine wpb_cons (wps_ret (Ev.wp (B.nm (i := 3) rfl rfl (.inl rfl)) (RV.mk (q z (isName_of h1 (by omega) (by omega)) (by rw [e]; omega)))))

/-- _law_names -/
structure NamesOk (ns : List Str) : Prop where
  nd : ns.Nodup
  pos : 1 ≤ ns.length
  le : ns.length ≤ 6
  good : ∀ n ∈ ns, isName n = true ∧ n.length ≤ 8
def tpNames : TSp := fun ds A Q E => ∃ t, ∃ ts : List Int, ds = [.ref t] ∧ A t = some (.prim (.lst (ts.map .int))) ∧ 16 ≤ ts.length ∧ tapeOk ts ∧ ∀ ns q, NamesOk ns → A q = none → Q (.ref q) (updA A q (.prim (.lst (ns.map .str))))
theorem sc_names : FnScope N_law_names ["_law_tape_here"] (defScope s_law_names) := ⟨rfl, rfl, rfl, by decide +kernel, rfl, by decide +kernel, by decide +kernel⟩
theorem tape_at {ts : List Int} {i : Nat} (h : i < ts.length) : atI (ts.map TL.D.int) (i : Nat) = some (.int ts[i]) := by
  rw [atI_map (by omega) (by simpa using h)]
  simp
theorem body_names (G : Free mg) (gn : GF K mg "_law_name") (F : FnT P w K mg base 2 (He.ga K "_law_name") tpName) : BodyT P w K mg base N_law_names (defScope s_law_names) 2 (defBody s_law_names) tpNames := by
  intro X bd ds A Q ET hx ⟨t, ts, e, ht, hl, hok, q⟩
  obtain ⟨rfl, rfl, rfl, rfl, rfl, B, room, _, _⟩ := bd
  subst e
  have h0 : 0 < ts.length := by omega
  have hb0 := hok _ (List.getElem_mem h0)
  refine wpb_cons (B.set (i := 1) rfl (.inl rfl) (EvN.wp (evn_lst eva_nil (show 0 ≤ sizeLine by decide)) fun l hl => ?_))
  have a1 := upd_new (u := .prim (.lst [])) ht hl
  refine wpb_cons (B.for_ (wpi_range1 B.toBC rfl G.range (Ev.wp (ev_bin ev_int (ev_bin (B.eT rfl G.int bt_int (eva_cons (ev_ix (B.nm (i := 0) rfl rfl (.inl rfl)) ev_int (ixv_list (.inl a1) (tape_at h0))) eva_nil) cav_int) ev_int (opv_mod (by decide))) opv_add) ⟨_, rfl, by omega, by omega, fun j δ' A' => ∃ (ns : List Str) (v2 v3 : Option TL.D), ns.Nodup ∧ (1 ≤ j → 1 ≤ ns.length) ∧ ns.length ≤ j ∧ (∀ n ∈ ns, isName n = true ∧ n.length ≤ 8) ∧ A' = updA A l (.prim (.lst (ns.map .str))) ∧
    δ' = [some (.ref t), some (.ref l), v2, v3], ⟨[], none, none, List.nodup_nil, fun h => by omega, Nat.le_refl _, fun _ h => (nomatch h), rfl, rfl⟩, fun _ _ _ _ _ => trivial, fun j δ' A' hj ⟨ns, v2, v3, h1, h2, h3, h4, eA, eδ⟩ => ?_, fun δ' A' ⟨ns, v2, v3, h1, h2, h3, h4, eA, eδ⟩ => ?_⟩)))
  · subst eA eδ
    refine WPG.to (B.tn (d := .int j) (i := 2) rfl (.inl rfl) ?_) (by simp)
    have a2 := upd_new (u := .prim (.lst (ns.map TL.D.str))) ht hl
    have hjl : 1 + j < ts.length := by omega
    refine wpb_cons (B.set (i := 3) rfl (.inl rfl) (B.call (ET := NoX) F room rfl gn.g gn.k pass0 (EvA.wp (eva_cons (ev_ix (B.nm (i := 0) rfl rfl (.inl rfl)) (ev_bin ev_int (B.nm (i := 2) rfl rfl (.inl rfl)) opv_add) (ixv_list (.inl a2) ((by rw [show ((1 : Int) + (j : Nat)) = ((1 + j : Nat) : Int) by omega]; exact tape_at hjl)))) eva_nil) ⟨_, rfl, (hok _ (List.getElem_mem hjl)).1, fun z hz hz8 => ?_⟩)))
    refine wpb_cons (wps_ifE (et_cmp (B.nm (i := 3) rfl rfl (.inl rfl)) (B.nm (i := 1) rfl rfl (.inl rfl)) (opv_notInL (x := z) (ys := ns) updA_same (by have := room.units; show _ + 1 + 0 < _; omega)) rfl) (fun hk => ?_) fun hk => ?_)
    · have hk' : z ∉ ns := of_decide_eq_true hk
      refine wpb_cons (wps_expr (wpe_append (Ev.wp (B.nm (i := 1) rfl rfl (.inl rfl)) ⟨l, rfl, ⟨_, updA_same⟩, Ev.wp (B.nm (i := 3) rfl rfl (.inl rfl)) ⟨_, updA_same, by rw [List.length_map, sizeLine_eq]; omega, ?_⟩⟩)))
      refine wpb_nil (wpb_nil ⟨_, Vw.refl _, ns ++ [z], some (.int j), some (.str z), ?_, fun _ => by simp, by simp; omega, ?_, by rw [updA_updA, List.map_append]; rfl, rfl⟩)
      · exact List.nodup_append.mpr ⟨h1, by simp, fun a ha b hb => by rw [List.mem_singleton] at hb; subst hb; exact fun z => hk' (z ▸ ha)⟩
      · intro n hn
        rcases List.mem_append.mp hn with hn | hn
        · exact h4 n hn
        · rw [List.mem_singleton] at hn; subst hn; exact ⟨hz, hz8⟩
    · have hk' : z ∈ ns := by
        have := of_decide_eq_false hk
        exact Classical.byContradiction fun h => this h
      exact wpb_nil (wpb_nil ⟨_, Vw.refl _, ns, some (.int j), some (.str z), h1, fun _ => List.length_pos_of_mem hk', by omega, h4, rfl, rfl⟩)
  · subst eA eδ
    exact wpb_cons (wps_ret (Ev.wp (B.nm (i := 1) rfl rfl (.inl rfl)) (RV.mk (q ns l ⟨h1, h2 (by omega), by omega, h4⟩ hl))))

/-- _law_ties -/
def TiesOk (ns : List Str) (ts : List (Str × Str)) : Prop := ts.length ≤ 8 ∧ ∀ t ∈ ts, t.1 ∈ ns ∧ t.2 ∈ ns
def tpLTies : TSp := fun ds A Q E => ∃ t l, ∃ ts : List Int, ∃ ns : List Str, ds = [.ref t, .ref l] ∧ A t = some (.prim (.lst (ts.map .int))) ∧ A l = some (.prim (.lst (ns.map .str))) ∧ 16 ≤ ts.length ∧ tapeOk ts ∧ 1 ≤ ns.length ∧ ns.length ≤ 6 ∧
  ∀ tl q, TiesOk ns tl → A q = none → Q (.ref q) (updA A q (.prim (.lst (tl.map pr))))
theorem sc_lties : FnScope N_law_ties ["_law_tape_here", "_law_names_here"] (defScope s_law_ties) := ⟨rfl, rfl, rfl, by decide +kernel, rfl, by decide +kernel, by decide +kernel⟩
theorem body_lties (G : Free mg) : BodyT P w K mg base N_law_ties (defScope s_law_ties) 1 (defBody s_law_ties) tpLTies := by
  intro X bd ds A Q ET hx ⟨t, l, ts, ns, e, ht, hlN, hl, hok, hn1, hn6, q⟩
  obtain ⟨rfl, rfl, rfl, rfl, rfl, B, room, _, _⟩ := bd
  subst e
  have h0 : 7 < ts.length := by omega
  have hb0 := hok _ (List.getElem_mem h0)
  refine wpb_cons (B.set (i := 2) rfl (.inl rfl) (EvN.wp (evn_lst eva_nil (show 0 ≤ sizeLine by decide)) fun r hr => ?_))
  have a1 := upd_new (u := .prim (.lst [])) ht hr
  refine wpb_cons (B.for_ (wpi_range1 B.toBC rfl G.range (Ev.wp (ev_bin (B.eT rfl G.int bt_int (eva_cons (ev_ix (B.nm (i := 0) rfl rfl (.inl rfl)) ev_int (ixv_list (.inl a1) (tape_at h0))) eva_nil) cav_int) ev_int (opv_mod (by decide))) ⟨_, rfl, by omega, by omega, fun j δ' A' => ∃ (tl : List (Str × Str)) (v3 v4 v5 : Option TL.D), tl.length = j ∧ (∀ t ∈ tl, t.1 ∈ ns ∧ t.2 ∈ ns) ∧ A' = updA A r (.prim (.lst (tl.map pr))) ∧
    δ' = [some (.ref t), some (.ref l), some (.ref r), v3, v4, v5], ⟨[], none, none, none, rfl, fun _ h => (nomatch h), rfl, rfl⟩, fun _ _ _ _ _ => trivial, fun j δ' A' hj ⟨tl, v3, v4, v5, h1, h2, eA, eδ⟩ => ?_, fun δ' A' ⟨tl, v3, v4, v5, h1, h2, eA, eδ⟩ => ?_⟩)))
  · subst eA eδ
    refine WPG.to (B.tn (d := .int j) (i := 3) rfl (.inl rfl) ?_) (by simp)
    have a2 := upd_new (u := .prim (.lst (tl.map pr))) ht hr
    have a3 := upd_new (u := .prim (.lst (tl.map pr))) hlN hr
    have hjl : 8 + j < ts.length := by omega
    have npos : (0 : Int) < (ns.length : Int) := by omega
    have nle : (ns.length : Int) < 1073741824 := by omega
    have eln : ∀ {δ : Ds} {p1 p2 p3 : Pos}, δ[1]? = some (some (.ref l)) → Ev X (.Call (.Name "len" p1) [.Name "_law_names_here" p2] [] p3) δ (updA A r (.prim (.lst (tl.map pr)))) (.int ns.length) := fun h => Ev.to (B.eB rfl G.len bt_len (eva_cons (B.nm (i := 1) rfl h (.inl rfl)) eva_nil) (cav_len (.inl a3))) (by rw [List.length_map])
    refine wpb_cons (B.set (i := 4) rfl (.inl rfl) (Ev.wp (ev_ix (B.nm (i := 0) rfl rfl (.inl rfl)) (ev_bin ev_int (B.nm (i := 3) rfl rfl (.inl rfl)) opv_add) (ixv_list (.inl a2) (by rw [show ((8 : Int) + (j : Nat)) = ((8 + j : Nat) : Int) by omega]; exact tape_at hjl))) ?_))
    generalize ts[8 + j] = num
    have m1 : 0 ≤ num % (ns.length : Int) ∧ num % (ns.length : Int) < ns.length := ⟨Int.emod_nonneg _ (by omega), Int.emod_lt_of_pos _ npos⟩
    have m2 : 0 ≤ (num / (ns.length : Int)) % (ns.length : Int) ∧ (num / (ns.length : Int)) % (ns.length : Int) < ns.length := ⟨Int.emod_nonneg _ (by omega), Int.emod_lt_of_pos _ npos⟩
    have hx1 : (num % (ns.length : Int)).toNat < ns.length := by omega
    have hx2 : ((num / (ns.length : Int)) % (ns.length : Int)).toNat < ns.length := by omega
    refine wpb_cons (B.set (i := 5) rfl (.inl rfl) (Ev.wp (ev_ix (B.nm (i := 1) rfl rfl (.inl rfl)) (ev_bin (B.eT rfl G.int bt_int (eva_cons (B.nm (i := 4) rfl rfl (.inl rfl)) eva_nil) cav_int) (eln rfl) (opv_mod npos)) (ixv_list (.inl a3) (atI_map m1.1 hx1))) ?_))
    refine wpb_cons (wps_expr (wpe_append (Ev.wp (B.nm (i := 2) rfl rfl (.inl rfl)) ⟨r, rfl, ⟨_, updA_same⟩, Ev.wp (ev_tup (eva_cons (B.nm (i := 5) rfl rfl (.inl rfl)) (eva_cons (ev_ix (B.nm (i := 1) rfl rfl (.inl rfl)) (ev_bin (B.eT rfl G.int bt_int (eva_cons (ev_bin (B.nm (i := 4) rfl rfl (.inl rfl)) (eln rfl) (opv_fdiv ⟨npos, nle⟩)) eva_nil) cav_int) (eln rfl) (opv_mod npos)) (ixv_list (.inl a3) (atI_map m2.1 hx2))) eva_nil)) (show 2 ≤ sizeLine by decide)) ⟨_, updA_same, by rw [List.length_map, sizeLine_eq]; omega, ?_⟩⟩)))
    refine wpb_nil ⟨_, Vw.refl _, tl ++ [(_, _)], some (.int j), some (.int num), some (.str _), by simp [h1], ?_, by rw [updA_updA, List.map_append]; rfl, rfl⟩
    intro t ht
    rcases List.mem_append.mp ht with ht | ht
    · exact h2 t ht
    · rw [List.mem_singleton] at ht
      subst ht
      exact ⟨List.getElem_mem hx1, List.getElem_mem hx2⟩
  · subst eA eδ
    exact wpb_cons (wps_ret (Ev.wp (B.nm (i := 2) rfl rfl (.inl rfl)) (RV.mk (q tl r ⟨by omega, h2⟩ hr))))

/-- _law_truth -/
def tpTruth : TSp := fun ds A Q E => ∃ a b : Bool, ds = [.bl a, .bl b] ∧ Q (.bl (decide (a = b))) A
theorem sc_truth : FnScope N_law_truth ["_law_value", "_law_wanted"] (defScope s_law_truth) := ⟨rfl, rfl, rfl, by decide +kernel, rfl, by decide +kernel, by decide +kernel⟩
theorem body_truth : BodyT P w K mg base N_law_truth (defScope s_law_truth) 0 (defBody s_law_truth) tpTruth := by
  intro X bd ds A Q ET hx ⟨a, b, e, q⟩
  obtain ⟨rfl, rfl, rfl, rfl, rfl, B, room, _, _⟩ := bd
  subst e
  refine wpb_cons (wps_ifE (et_val (B.nm (i := 1) rfl rfl (.inl rfl))) (fun hk => ?_) fun hk => wpb_nil ?_)
  · subst hk
    exact wpb_cons (wps_ret (Ev.wp (ev_cmp (B.nm (i := 0) rfl rfl (.inl rfl)) ev_bl opv_isBl rfl) (RV.mk q)))
  · subst hk
    exact wpb_cons (wps_ret (Ev.wp (ev_cmp (B.nm (i := 0) rfl rfl (.inl rfl)) ev_bl opv_isBl rfl) (RV.mk q)))
end TL
/-! who may act for whom: paths of ties -/
namespace TL
open PySem PySem.Spec PyProof.Rows L2
variable {P : Program} {w : World} {K : PySem.W.Frag} {mg : Str → Option Value} {base : Heap} {k : Nat}

inductive Path {α : Type} (ts : List (α × α)) : α → α → Prop where
  | refl (a : α) : Path ts a a
  | step {a b c : α} : Path ts a b → (b, c) ∈ ts → Path ts a c
theorem Path.mono {α : Type} {ts us : List (α × α)} {a b : α} (h : Path ts a b) (k : ∀ t ∈ ts, t ∈ us) : Path us a b := by
  induction h with
  | refl => exact .refl _
  | step _ m ih => exact .step ih (k _ m)
theorem Path.trans {α : Type} {ts : List (α × α)} {a b c : α} (h : Path ts a b) (k : Path ts b c) : Path ts a c := by
  induction k with
  | refl => exact h
  | step _ m ih => exact .step ih m
theorem path_add {ts : List (Str × Str)} {a b n x : Str} : Path (ts ++ [(a, b)]) n x ↔ Path ts n x ∨ (Path ts n a ∧ Path ts b x) := by
  constructor
  · intro h
    induction h with
    | refl => exact .inl (.refl _)
    | @step y c _ m ih =>
      rcases List.mem_append.mp m with m | m
      · rcases ih with ih | ⟨h1, h2⟩
        · exact .inl (.step ih m)
        · exact .inr ⟨h1, .step h2 m⟩
      · rw [List.mem_singleton] at m
        cases m
        rcases ih with ih | ⟨h1, h2⟩
        · exact .inr ⟨ih, .refl _⟩
        · exact .inr ⟨h1, .refl _⟩
  · have up : ∀ t ∈ ts, t ∈ ts ++ [(a, b)] := fun t h => List.mem_append_left _ h
    rintro (h | ⟨h1, h2⟩)
    · exact h.mono up
    · exact (Path.step (h1.mono up) (by simp)).trans (h2.mono up)
/-- a path stays among the people -/
theorem Path.inn {ts : List (Str × Str)} {ps : List Str} {a b : Str} (h : Path ts a b) (ha : a ∈ ps) (k : ∀ t ∈ ts, t.1 ∈ ps ∧ t.2 ∈ ps) : b ∈ ps := by
  induction h with
  | refl => exact ha
  | step _ m _ => exact (k _ m).2
structure Good (W : WebD) : Prop extends W.ok where
  path : ∀ a ∈ W.people, ∀ x, x ∈ W.rc a ↔ Path W.ties a x
theorem Good.web0 : Good web0 := ⟨⟨List.nodup_nil, by decide, fun _ h => (nomatch h), List.nodup_nil, fun _ h => (nomatch h)⟩, fun _ h => (nomatch h)⟩
theorem nodup_snoc {α : Type} {xs : List α} {a : α} (h : xs.Nodup) (n : a ∉ xs) : (xs ++ [a]).Nodup := List.nodup_append.mpr ⟨h, by simp, fun x hx b hb => by rw [List.mem_singleton] at hb; subst hb; exact fun z => n (z ▸ hx)⟩
theorem Good.add {W : WebD} {n : Str} (h : Good W) (hn : n ∉ W.people) (hl : W.people.length < 24) : Good (W.add n) := by
  have old : ∀ m ∈ W.people, (W.add n).rc m = W.rc m := fun m hm => by
    show (if m = n then [n] else W.rc m) = _
    rw [if_neg fun (z : m = n) => hn (by rw [← z]; exact hm)]
  have new : (W.add n).rc n = [n] := by
    show (if n = n then [n] else W.rc n) = _
    rw [if_pos rfl]
  have mem : ∀ m, m ∈ (W.add n).people ↔ m ∈ W.people ∨ m = n := fun m => by
    show m ∈ W.people ++ [n] ↔ _
    rw [List.mem_append, List.mem_singleton]
  refine ⟨⟨nodup_snoc h.nd hn, ?_, fun m hm => ?_, h.tnd, fun t ht => ⟨(mem _).mpr (.inl (h.tin t ht).1), (mem _).mpr (.inl (h.tin t ht).2)⟩⟩, fun a ha x => ?_⟩
  · show (W.people ++ [n]).length ≤ 24
    rw [List.length_append, List.length_singleton]; omega
  · rcases (mem m).mp hm with hm | hm
    · rw [old m hm]
      exact ⟨(h.rnd m hm).1, fun x hx => (mem x).mpr (.inl ((h.rnd m hm).2 x hx))⟩
    · subst hm
      rw [new]
      exact ⟨by simp, fun x hx => by rw [List.mem_singleton] at hx; subst hx; exact hm⟩
  · rcases (mem a).mp ha with ha | ha
    · rw [old a ha]; exact h.path a ha x
    · subst ha
      rw [new, List.mem_singleton]
      constructor
      · rintro rfl; exact .refl _
      · intro p
        have alone : ∀ y, Path W.ties a y → y = a := fun y p => by
          induction p with
          | refl => rfl
          | step _ m ih =>
            rw [ih] at m
            exact absurd (h.tin _ m).1 hn
        exact alone x p
theorem tie_people {W : WebD} {a b : Str} : (W.tie a b).people = W.people := by unfold WebD.tie; split <;> rfl
theorem tie_ties {W : WebD} {a b : Str} : (W.tie a b).ties = if a = b ∨ (a, b) ∈ W.ties then W.ties else W.ties ++ [(a, b)] := by unfold WebD.tie; split <;> rfl
theorem Good.tie {W : WebD} {a b : Str} (h : Good W) (ha : a ∈ W.people) (hb : b ∈ W.people) : Good (W.tie a b) := by
  unfold WebD.tie
  split
  · exact h
  · rename_i hne
    have hm : ∀ n x, x ∈ W.rc' a b n ↔ x ∈ W.rc n ∨ (a ∈ W.rc n ∧ x ∈ W.rc b) := fun n x => by
      unfold WebD.rc'
      split
      · rename_i hk
        rw [List.mem_append, List.mem_filter]
        by_cases q : x ∈ W.rc n <;> simp [q, hk]
      · rename_i hk
        simp [hk]
    refine ⟨⟨h.nd, h.len, fun n hn => ⟨?_, fun x hx => ?_⟩, nodup_snoc h.tnd fun z => hne (.inr z), fun t ht => ?_⟩, fun n hn x => ?_⟩
    · show (W.rc' a b n).Nodup
      unfold WebD.rc'
      split
      · refine List.nodup_append.mpr ⟨(h.rnd n hn).1, (h.rnd b hb).1.sublist List.filter_sublist, fun x hx y hy => ?_⟩
        rintro rfl
        exact of_decide_eq_true (List.mem_filter.mp hy).2 hx
      · exact (h.rnd n hn).1
    · rcases (hm n x).mp hx with z | ⟨_, z⟩
      · exact (h.rnd n hn).2 x z
      · exact (h.rnd b hb).2 x z
    · rcases List.mem_append.mp ht with z | z
      · exact h.tin t z
      · rw [List.mem_singleton] at z; subst z; exact ⟨ha, hb⟩
    · show x ∈ W.rc' a b n ↔ Path (W.ties ++ [(a, b)]) n x
      rw [path_add, hm, h.path n hn, h.path n hn, h.path b hb]

/-! ### the search of the law -/
def passT (f : List Str) (t : Str × Str) : List Str := if t.1 ∈ f ∧ t.2 ∉ f then f ++ [t.2] else f
def pass (ts : List (Str × Str)) (f : List Str) : List Str := ts.foldl passT f
def passes (ts : List (Str × Str)) : Nat → List Str → List Str
  | 0, f => f
  | n + 1, f => pass ts (passes ts n f)
structure FOk (ts : List (Str × Str)) (ns : List Str) (a : Str) (f : List Str) : Prop where
  nd : f.Nodup
  sub : ∀ x ∈ f, x ∈ ns
  pth : ∀ x ∈ f, Path ts a x
  me : a ∈ f
theorem FOk.one {ts : List (Str × Str)} {ns : List Str} {a : Str} (h : a ∈ ns) : FOk ts ns a [a] := ⟨by simp, fun x hx => by rw [List.mem_singleton] at hx; subst hx; exact h, fun x hx => by rw [List.mem_singleton] at hx; subst hx; exact .refl _, by simp⟩
theorem FOk.passT {ts : List (Str × Str)} {ns : List Str} {a : Str} {f : List Str} {t : Str × Str} (h : FOk ts ns a f) (ht : t ∈ ts) (k : ∀ t ∈ ts, t.1 ∈ ns ∧ t.2 ∈ ns) : FOk ts ns a (passT f t) := by
  unfold TL.passT
  split
  · rename_i c
    refine ⟨nodup_snoc h.nd c.2, fun x hx => ?_, fun x hx => ?_, List.mem_append_left _ h.me⟩
    · rcases List.mem_append.mp hx with z | z
      · exact h.sub x z
      · rw [List.mem_singleton] at z; subst z; exact (k t ht).2
    · rcases List.mem_append.mp hx with z | z
      · exact h.pth x z
      · rw [List.mem_singleton] at z; subst z; exact .step (h.pth _ c.1) ht
  · exact h
theorem FOk.fold {ts : List (Str × Str)} {ns : List Str} {a : Str} (k : ∀ t ∈ ts, t.1 ∈ ns ∧ t.2 ∈ ns) : ∀ {us : List (Str × Str)} {f : List Str}, (∀ t ∈ us, t ∈ ts) → FOk ts ns a f → FOk ts ns a (us.foldl TL.passT f)
  | [], f, _, h => h
  | t :: r, f, hs, h => FOk.fold (us := r) k (fun u hu => hs u (List.mem_cons_of_mem _ hu)) (h.passT (hs t List.mem_cons_self) k)
theorem FOk.passes {ts : List (Str × Str)} {ns : List Str} {a : Str} {f : List Str} (k : ∀ t ∈ ts, t.1 ∈ ns ∧ t.2 ∈ ns) (h : FOk ts ns a f) : ∀ n, FOk ts ns a (passes ts n f)
  | 0 => h
  | n + 1 => FOk.fold k (fun _ h => h) (FOk.passes k h n)
def Closed (ts : List (Str × Str)) (f : List Str) : Prop := ∀ t ∈ ts, t.1 ∈ f → t.2 ∈ f
theorem fold_len : ∀ (us : List (Str × Str)) (f : List Str), f.length ≤ (us.foldl passT f).length
  | [], f => Nat.le_refl _
  | t :: r, f => by
    refine Nat.le_trans ?_ (fold_len r (passT f t))
    unfold passT
    split
    · rw [List.length_append]; omega
    · exact Nat.le_refl _
theorem fold_grow : ∀ (us : List (Str × Str)) (f : List Str), Closed us f ∨ f.length < (us.foldl passT f).length
  | [], f => .inl fun _ h => (nomatch h)
  | t :: r, f => by
    by_cases c : t.1 ∈ f ∧ t.2 ∉ f
    · refine .inr (Nat.lt_of_lt_of_le ?_ (fold_len r (passT f t)))
      unfold passT
      rw [if_pos c, List.length_append, List.length_singleton]; omega
    · have e : passT f t = f := by unfold passT; rw [if_neg c]
      rw [List.foldl_cons, e]
      rcases fold_grow r f with h | h
      · refine .inl fun u hu h1 => ?_
        rcases List.mem_cons.mp hu with z | z
        · rw [z] at h1 ⊢; exact Classical.byContradiction fun q => c ⟨h1, q⟩
        · exact h u z h1
      · exact .inr h
theorem closed_fold {ts : List (Str × Str)} {f : List Str} (h : Closed ts f) : pass ts f = f := by
  have q : ∀ (us : List (Str × Str)), (∀ t ∈ us, t ∈ ts) → us.foldl passT f = f := fun us => by
    induction us with
    | nil => intro _; rfl
    | cons t r ih =>
      intro hs
      have e : passT f t = f := by
        unfold passT
        rw [if_neg fun c => c.2 (h t (hs t List.mem_cons_self) c.1)]
      rw [List.foldl_cons, e]
      exact ih fun u hu => hs u (List.mem_cons_of_mem _ hu)
  exact q ts fun _ h => h
theorem passes_grow (ts : List (Str × Str)) (f : List Str) : ∀ n, Closed ts (passes ts n f) ∨ f.length + n ≤ (passes ts n f).length
  | 0 => .inr (Nat.le_refl _)
  | n + 1 => by
    rcases passes_grow ts f n with h | h
    · left
      show Closed ts (pass ts (passes ts n f))
      rw [closed_fold h]; exact h
    · rcases fold_grow ts (passes ts n f) with c | c
      · left
        show Closed ts (pass ts (passes ts n f))
        rw [closed_fold c]; exact c
      · right
        show _ ≤ (pass ts (passes ts n f)).length
        unfold pass; omega
theorem passes_path {ts : List (Str × Str)} {ns : List Str} {a : Str} (ha : a ∈ ns) (k : ∀ t ∈ ts, t.1 ∈ ns ∧ t.2 ∈ ns) (x : Str) : x ∈ passes ts ns.length [a] ↔ Path ts a x := by
  have ok := FOk.passes k (FOk.one (ts := ts) ha) ns.length
  have cl : Closed ts (passes ts ns.length [a]) := by
    rcases passes_grow ts [a] ns.length with h | h
    · exact h
    · have := len_le_of_sub ok.nd ok.sub
      simp only [List.length_singleton] at h
      omega
  refine ⟨ok.pth x, fun p => ?_⟩
  induction p with
  | refl => exact ok.me
  | step _ m ih => exact cl _ m ih
end TL
/-! the law's reach, pairs, web -/
namespace TL
open PySem PySem.Spec PyProof.Rows L2
variable {P : Program} {w : World} {K : PySem.W.Frag} {mg : Str → Option Value} {base : Heap} {k : Nat}

/-- a dict of lists at d, as a reckoning of the law makes it -/
def DictL (A : AH) (d : Addr) (ns : List Str) (R : Str → List Str) : Prop := ∃ ad : Str → Addr, A d = some (.prim (.dK (ns.map fun n => (.inr n, .ref (ad n))))) ∧ ∀ n ∈ ns, A (ad n) = some (.prim (.lst ((R n).map .str)))
theorem DictL.sub {A A' : AH} {d : Addr} {ns : List Str} {R : Str → List Str} (h : DictL A d ns R) (k : TL.Sub A A') : DictL A' d ns R := let ⟨ad, h1, h2⟩ := h; ⟨ad, k _ _ h1, fun n hn => k _ _ (h2 n hn)⟩
def tpReach : TSp := fun ds A Q E => ∃ l l2, ∃ ns : List Str, ∃ ts : List (Str × Str), ds = [.ref l, .ref l2] ∧ A l = some (.prim (.lst (ns.map .str))) ∧ A l2 = some (.prim (.lst (ts.map pr))) ∧ ns.Nodup ∧ ns.length ≤ 24 ∧ (∀ t ∈ ts, t.1 ∈ ns ∧ t.2 ∈ ns) ∧
  ∀ d A' R, TL.Sub A A' → DictL A' d ns R → (∀ n ∈ ns, ∀ x, x ∈ R n ↔ Path ts n x) → Q (.ref d) A'
theorem sc_reach : FnScope N_law_reach ["_law_names_here", "_law_ties_here"] (defScope s_law_reach) := ⟨rfl, rfl, rfl, by decide +kernel, rfl, by decide +kernel, by decide +kernel⟩
theorem fold_next {ts : List (Str × Str)} {f : List Str} {i : Nat} (h : i < ts.length) : (ts.take (i + 1)).foldl passT f = passT ((ts.take i).foldl passT f) ts[i] := by
  rw [take_snoc (List.getElem?_eq_getElem h), List.foldl_append]; rfl
theorem body_reach (G : Free mg) : BodyT P w K mg base N_law_reach (defScope s_law_reach) 1 (defBody s_law_reach) tpReach := by
  intro X bd ds A Q ET hx ⟨l, l2, ns, ts, e, hl, hl2, nd, h24, hts, q⟩
  obtain ⟨rfl, rfl, rfl, rfl, rfl, B, room, _, _⟩ := bd
  subst e
  have u1 : X.A.units + 1 < cLine := by have := room.units; omega
  have u3 : X.A.units + 1 + 0 < cLine := by have := room.units; omega
  refine wpb_cons (B.set (i := 2) rfl (.inl rfl) (EvN.wp evn_dict fun d hd => ?_))
  have s0 : TL.Sub A (updA A d (.prim (.dK []))) := Sub.upd (Sub.refl A) hd
  refine wpb_cons (B.for_ (wpi_list (Ev.wp (B.nm (i := 0) rfl rfl (.inl rfl)) ⟨l, _, rfl, s0 _ _ hl, fun i δ' A' => ∃ (ad : Str → Addr) (R : Str → List Str) (v3 v4 v5 v6 : Option TL.D), TL.Sub A A' ∧ A' d = some (.prim (.dK ((ns.take i).map fun n => (.inr n, .ref (ad n))))) ∧ (∀ n ∈ ns.take i, A' (ad n) = some (.prim (.lst ((R n).map .str)))) ∧ (∀ n ∈ ns.take i, ∀ x, x ∈ R n ↔ Path ts n x) ∧
    δ' = [some (.ref l), some (.ref l2), some (.ref d), v3, v4, v5, v6], ⟨fun _ => 0, fun _ => [], none, none, none, none, s0, updA_same, fun _ h => (nomatch h), fun _ h => (nomatch h), rfl⟩, fun i δ' A' _ ⟨_, _, _, _, _, _, sA, _⟩ => sA _ _ hl, fun i δ' A' hi ⟨ad, R, v3, v4, v5, v6, sA, hD, hR, hP, eδ⟩ => ?_, fun δ' A' ⟨ad, R, v3, v4, v5, v6, sA, hD, hR, hP, eδ⟩ => ?_⟩)))
  · subst eδ
    have hi' : i < ns.length := by simpa using hi
    have hmem := List.getElem_mem hi'
    have hnot := not_in_take nd hi'
    have hmt := fun x => mem_take_next (x := x) hi'
    refine WPG.to (B.tn (i := 3) rfl (.inl rfl) ?_) (getD_map hi')
    generalize hnm : ns[i] = n at hmem hnot hmt
    refine wpb_cons (B.set (i := 4) rfl (.inl rfl) (EvN.wp (evn_lst (eva_cons (B.nm (i := 3) rfl rfl (.inl rfl)) eva_nil) (show 1 ≤ sizeLine by decide)) fun f hf => ?_))
    have frs : ∀ o : AO, TL.Sub A' (updA A' f o) := fun o => Sub.upd (Sub.refl A') hf
    have hl' := sA _ _ hl
    have hl2' := sA _ _ hl2
    refine wpb_cons (B.for_ (wpi_range1 B.toBC rfl G.range (Ev.wp (Ev.to (B.eB rfl G.len bt_len (eva_cons (B.nm (i := 0) rfl rfl (.inl rfl)) eva_nil) (cav_len (.inl (frs _ _ _ hl')))) (by rw [List.length_map])) ⟨(ns.length : Nat), rfl, by omega, by omega, fun j δ' A'' => ∃ (v5 v6 : Option TL.D), A'' = updA A' f (.prim (.lst ((passes ts j [n]).map .str))) ∧
      δ' = [some (.ref l), some (.ref l2), some (.ref d), some (.str n), some (.ref f), v5, v6], ⟨v5, v6, rfl, rfl⟩, fun _ _ _ _ _ => trivial, fun j δ' A'' hj ⟨v5, v6, eA, eδ⟩ => ?_, fun δ' A'' ⟨v5, v6, eA, eδ⟩ => ?_⟩)))
    · subst eA eδ
      refine WPG.to (B.tn (d := .int j) (i := 5) rfl (.inl rfl) ?_) (by simp)
      have fo := FOk.passes hts (FOk.one (ts := ts) hmem) j
      generalize hF : passes ts j [n] = F0 at fo ⊢
      refine wpb_cons (B.for_ (wpi_list (Ev.wp (B.nm (i := 1) rfl rfl (.inl rfl)) ⟨l2, _, rfl, frs _ _ _ hl2', fun m δ' A'' => ∃ (v6 : Option TL.D), A'' = updA A' f (.prim (.lst (((ts.take m).foldl passT F0).map .str))) ∧
        δ' = [some (.ref l), some (.ref l2), some (.ref d), some (.str n), some (.ref f), some (.int j), v6], ⟨v6, rfl, rfl⟩, fun m δ' A'' _ ⟨v6, eA, _⟩ => by rw [eA]; exact frs _ _ _ hl2', fun m δ' A'' hm ⟨v6, eA, eδ⟩ => ?_, fun δ' A'' ⟨v6, eA, eδ⟩ => ?_⟩)))
      · subst eA eδ
        have hm' : m < ts.length := by simpa using hm
        refine WPG.to (B.tn (i := 6) rfl (.inl rfl) ?_) (getD_map hm')
        have fo2 := FOk.fold hts (us := ts.take m) (fun t ht => List.mem_of_mem_take ht) fo
        have flen := len_le_of_sub fo2.nd fo2.sub
        have enext := fold_next (f := F0) hm'
        generalize (ts.take m).foldl passT F0 = F1 at fo2 flen enext ⊢
        rcases ht : ts[m] with ⟨t1, t2⟩
        rw [ht] at enext
        refine wpb_cons (wps_ifE (et_w (ew_and (et_cmp (ev_ix (B.nm (d := .tup [.str t1, .str t2]) (i := 6) rfl rfl (.inl rfl)) ev_int (ixv_tup (z := .str t1) rfl)) (B.nm (i := 4) rfl rfl (.inl rfl)) (opv_inL (x := t1) (ys := F1) updA_same u3) rfl) fun _ => ew_and1 (et_cmp (ev_ix (B.nm (d := .tup [.str t1, .str t2]) (i := 6) rfl rfl (.inl rfl)) ev_int (ixv_tup (z := .str t2) rfl)) (B.nm (i := 4) rfl rfl (.inl rfl)) (opv_notInL (x := t2) (ys := F1) updA_same u3) rfl))) (fun hk => ?_) fun hk => ?_)
        · have hk' : t1 ∈ F1 ∧ t2 ∉ F1 := by simpa using hk
          refine wpb_cons (wps_expr (wpe_append (Ev.wp (B.nm (i := 4) rfl rfl (.inl rfl)) ⟨f, rfl, ⟨_, updA_same⟩, Ev.wp (ev_ix (B.nm (d := .tup [.str t1, .str t2]) (i := 6) rfl rfl (.inl rfl)) ev_int (ixv_tup (z := .str t2) rfl)) ⟨_, updA_same, by rw [List.length_map, sizeLine_eq]; omega, ?_⟩⟩)))
          refine wpb_nil (wpb_nil ⟨_, Vw.refl _, some (.tup [.str t1, .str t2]), ?_, rfl⟩)
          rw [updA_updA, enext]
          unfold passT
          rw [if_pos hk', List.map_append]; rfl
        · have hk' : ¬ (t1 ∈ F1 ∧ t2 ∉ F1) := by simpa using hk
          refine wpb_nil (wpb_nil ⟨_, Vw.refl _, some (.tup [.str t1, .str t2]), ?_, rfl⟩)
          rw [enext]
          unfold passT
          rw [if_neg hk']
      · subst eA eδ
        rw [List.length_map, List.take_length]
        exact wpb_nil ⟨_, Vw.refl _, some (.int j), v6, by show _ = updA A' f (.prim (.lst ((pass ts (passes ts j [n])).map .str))); rw [hF]; rfl, rfl⟩
    · subst eA eδ
      have ej : ((ns.length : Nat) : Int).toNat = ns.length := by omega
      rw [ej]
      have pp := passes_path hmem hts
      generalize passes ts ns.length [n] = F at pp ⊢
      have nfd : d ≠ f := fun z => by rw [← z, hD] at hf; cases hf
      refine wpb_cons (wps_dput u1 (Ev.wp (B.nm (i := 4) rfl rfl (.inl rfl)) (Ev.wp (B.nm (i := 2) rfl rfl (.inl rfl)) (Ev.wp (B.nm (i := 3) rfl rfl (.inl rfl)) ⟨d, _, .inr n, rfl, rfl, frs _ _ _ hD, by rw [List.length_map, List.length_take, sizeLine_eq]; omega, ?_⟩))))
      have hAd : A d = none := hd
      refine wpb_nil ⟨_, Vw.refl _, fun x => if x = n then f else ad x, fun x => if x = n then F else R x, some (.str n), some (.ref f), v5, v6, ?_, ?_, fun x hx => ?_, fun x hx y => ?_, rfl⟩
      · intro b o hb
        have hbd : b ≠ d := fun z => by rw [z, hAd] at hb; cases hb
        exact upd_ne' (frs _ _ _ (sA _ _ hb)) hbd
      · rw [updA_same, putKD_new hnot, take_snoc (show ns[i]? = some n by rw [← hnm]; exact List.getElem?_eq_getElem hi'), List.map_append, List.map_singleton]
        have em : ((ns.take i).map fun x => ((.inr x : Key), TL.D.ref (ad x))) = (ns.take i).map fun x => ((.inr x : Key), TL.D.ref (if x = n then f else ad x)) := List.map_congr_left fun x hx => by rw [if_neg (fun (z : x = n) => hnot (by rw [← z]; exact hx))]
        rw [em]
        simp
      · by_cases q : x = n
        · simp only [q, if_true]
          exact upd_ne' updA_same (Ne.symm nfd)
        · simp only [q, if_false]
          have hx' : x ∈ ns.take i := by
            rcases (hmt x).mp hx with z | z
            · exact z
            · exact absurd z q
          exact upd_ne' (frs _ _ _ (hR x hx')) (ne_kind (hR x hx') hD (by intro z; cases z))
      · by_cases q : x = n
        · simp only [q, if_true]
          exact pp y
        · simp only [q, if_false]
          have hx' : x ∈ ns.take i := by
            rcases (hmt x).mp hx with z | z
            · exact z
            · exact absurd z q
          exact hP x hx' y
  · subst eδ
    rw [List.length_map, List.take_length] at hD hR hP
    exact wpb_cons (wps_ret (Ev.wp (B.nm (i := 2) rfl rfl (.inl rfl)) (RV.mk (q d A' R sA ⟨ad, hD, hR⟩ hP))))
end TL
/-! the law's pairs, web -/
namespace TL
open PySem PySem.Spec PyProof.Rows L2
variable {P : Program} {w : World} {K : PySem.W.Frag} {mg : Str → Option Value} {base : Heap} {k : Nat}

structure WebM (K : PySem.W.Frag) : Prop where
  get : Meth K (cW K) "__getitem__" (wm K "__getitem__")
  getf : PySem.W.fnIn K (wm K "__getitem__") = true
  set : Meth K (cW K) "__setitem__" (wm K "__setitem__")
  len : Meth K (cW K) "__len__" (wm K "__len__")
  has : Meth K (cW K) "__contains__" (wm K "__contains__")
  iter : Meth K (cW K) "__iter__" (wm K "__iter__")
  make : Mk K (cW K) (wm K "__init__")
end TL
/-! the law's web, its crowd -/
namespace TL
open PySem PySem.Spec PyProof.Rows L2
variable {P : Program} {w : World} {K : PySem.W.Frag} {mg : Str → Option Value} {base : Heap} {k : Nat}

def webT (ns : List Str) (ts : List (Str × Str)) : WebD := ts.foldl (fun W t => W.tie t.1 t.2) (webOf ns)
theorem webOf_snoc (ns : List Str) (n : Str) : webOf (ns ++ [n]) = (webOf ns).add n := by unfold webOf; rw [List.foldl_append]; rfl
theorem good_webOf : ∀ (ns : List Str), ns.Nodup → ns.length ≤ 24 → Good (webOf ns) := fun ns => by
  have h : ∀ i, i ≤ ns.length → ns.Nodup → ns.length ≤ 24 → Good (webOf (ns.take i)) := fun i => by
    induction i with
    | zero => intro _ _ _; exact Good.web0
    | succ i ih =>
      intro hi nd hl
      have hi' : i < ns.length := by omega
      rw [take_snoc (List.getElem?_eq_getElem hi'), webOf_snoc]
      refine (ih (by omega) nd hl).add ?_ ?_
      · rw [webOf_people]; exact not_in_take nd hi'
      · rw [webOf_people, List.length_take]; omega
  intro nd hl
  have z := h ns.length (Nat.le_refl _) nd hl
  rwa [List.take_length] at z
theorem fold_tie_people : ∀ (ts : List (Str × Str)) (W : WebD), (ts.foldl (fun W t => W.tie t.1 t.2) W).people = W.people
  | [], _ => rfl
  | t :: r, W => by rw [List.foldl_cons, fold_tie_people r, tie_people]
theorem good_fold : ∀ (ts : List (Str × Str)) (W : WebD), Good W → (∀ t ∈ ts, t.1 ∈ W.people ∧ t.2 ∈ W.people) → Good (ts.foldl (fun W t => W.tie t.1 t.2) W)
  | [], _, h, _ => h
  | t :: r, W, h, k => good_fold r _ (h.tie (k t List.mem_cons_self).1 (k t List.mem_cons_self).2) fun u hu => by rw [tie_people]; exact k u (List.mem_cons_of_mem _ hu)
theorem fold_ties : ∀ (ts : List (Str × Str)) (W : WebD), (W.ties ++ ts).Nodup → (∀ t ∈ ts, t.1 ≠ t.2) → (ts.foldl (fun W t => W.tie t.1 t.2) W).ties = W.ties ++ ts
  | [], W, _, _ => by simp
  | t :: r, W, nd, h => by
    have hn : ¬ (t.1 = t.2 ∨ (t.1, t.2) ∈ W.ties) := by
      rintro (z | z)
      · exact h t List.mem_cons_self z
      · exact (List.nodup_append.mp nd).2.2 t z t List.mem_cons_self rfl
    have e : (W.tie t.1 t.2).ties = W.ties ++ [t] := by rw [tie_ties, if_neg hn]
    rw [List.foldl_cons, fold_ties r _ (by rw [e, List.append_assoc]; exact nd) fun u hu => h u (List.mem_cons_of_mem _ hu), e, List.append_assoc]
    rfl
theorem webT_people (ns : List Str) (ts : List (Str × Str)) : (webT ns ts).people = ns := by unfold webT; rw [fold_tie_people, webOf_people]
theorem webOf_ties (ns : List Str) : (webOf ns).ties = [] := by
  unfold webOf
  have h : ∀ (ns : List Str) (W : WebD), (ns.foldl WebD.add W).ties = W.ties := fun ns => by
    induction ns with
    | nil => intro W; rfl
    | cons a r ih => intro W; rw [List.foldl_cons, ih]; rfl
  rw [h]; rfl
abbrev tpInitS (K : PySem.W.Frag) : TSp := fun ds A Q E => ∃ ws rest, ds = ws ++ rest ∧ ws.length = 1 ∧ rest.length ≤ sizeLine ∧ tpInit K (ws ++ [.tup rest]) A Q E
/-- Web() -/
theorem wpe_web {X : Cx} {N : List Str} {sc : Scope} {δ : Ds} {A : AH} {Q : TQ} {p1 p2 : Pos} (B : BC X N sc) (G : WebK X.K X.mg) (M : WebM X.K) (F : FnT X.prog X.w X.K X.mg X.base 5 (wm X.K "__init__") (tpInitS X.K)) (room : Room 6 X.A) (hg : sc.names.lookup ("Web" : Str) = some .globalImplicit)
    (h : ∀ p lp, A p = none → A lp = none → p ≠ lp → Q (.ref p) (updA A p (.abs (isWeb (cW X.K) lp p (webOf []))))) : WPE X (.Call (.Name "Web" p1) [] [] p2) δ A Q :=
  B.make0 (ET := NoX) M.make F room hg G.gW pass0 fun p hp => ⟨[.ref p], [], rfl, rfl, by decide, p, [], rfl, updA_same, fun _ h => (nomatch h), fun _ lp hlp => ⟨rfl, by
    have hne : lp ≠ p := fun z => by rw [z, updA_same] at hlp; cases hlp
    rw [updA_updA]
    rw [updA_ne hne] at hlp
    exact h p lp hp hlp (Ne.symm hne)⟩, fun pre n post e => absurd (congrArg List.length e) (by simp)⟩
def tpLWeb (K : PySem.W.Frag) : TSp := fun ds A Q E => ∃ l l2, ∃ ns : List Str, ∃ ts : List (Str × Str), ds = [.ref l, .ref l2] ∧ A l = some (.prim (.lst (ns.map .str))) ∧ A l2 = some (.prim (.lst (ts.map pr))) ∧ ns.Nodup ∧ ns.length ≤ 24 ∧ (∀ n ∈ ns, isName n = true ∧ n.length ≤ 8) ∧ (∀ t ∈ ts, t.1 ∈ ns ∧ t.2 ∈ ns) ∧
  ∀ p lp, A p = none → A lp = none → Q (.ref p) (updA A p (.abs (isWeb (cW K) lp p (webT ns ts))))
theorem sc_lweb : FnScope N_law_web ["_law_names_here", "_law_ties_here"] (defScope s_law_web) := ⟨rfl, rfl, rfl, by decide +kernel, rfl, by decide +kernel, by decide +kernel⟩
theorem body_lweb (G : WebK K mg) (M : WebM K) (Fi : FnT P w K mg base 5 (wm K "__init__") (tpInitS K)) (Fw : FnT P w K mg base 4 (wm K "welcome") (tpWelcome K)) (Fs : FnT P w K mg base 4 (wm K "__setitem__") (tpSet K)) : BodyT P w K mg base N_law_web (defScope s_law_web) 6 (defBody s_law_web) (tpLWeb K) := by
  intro X bd ds A Q ET hx ⟨l, l2, ns, ts, e, hl, hl2, nd, h24, hgood, hts, q⟩
  obtain ⟨rfl, rfl, rfl, rfl, rfl, B, room, _, _⟩ := bd
  subst e
  refine wpb_cons (B.set (i := 2) rfl (.inl rfl) (wpe_web B.toBC G M Fi room rfl fun p lp hp hlp hne => ?_))
  have sb : ∀ W, TL.Sub A (updA A p (.abs (isWeb (cW X.K) lp p W))) := fun W => Sub.upd (Sub.refl A) hp
  refine wpb_cons (B.for_ (wpi_list (Ev.wp (B.nm (i := 0) rfl rfl (.inl rfl)) ⟨l, _, rfl, sb _ _ _ hl, fun i δ' A' => ∃ (v3 v4 : Option TL.D), A' = updA A p (.abs (isWeb (cW X.K) lp p (webOf (ns.take i)))) ∧ δ' = [some (.ref l), some (.ref l2), some (.ref p), v3, v4], ⟨none, none, rfl, rfl⟩, fun i δ' A' _ ⟨_, _, eA, _⟩ => by rw [eA]; exact sb _ _ _ hl, fun i δ' A' hi ⟨v3, v4, eA, eδ⟩ => ?_, fun δ' A' ⟨v3, v4, eA, eδ⟩ => ?_⟩)))
  · subst eA eδ
    have hi' : i < ns.length := by simpa using hi
    have hmem := List.getElem_mem hi'
    have hnot := not_in_take nd hi'
    refine WPG.to (B.tn (i := 3) rfl (.inl rfl) ?_) (getD_map hi')
    have hsz : ns[i].length ≤ sizeLine := by have := (hgood _ hmem).2; rw [sizeLine_eq]; omega
    refine wpb_cons (wps_expr (wpe_meth (ET := NoX) G.cls G.mwel Fw (room.mono (by omega)) pass0 (Ev.wp (B.nm (i := 2) rfl rfl (.inl rfl)) ⟨p, rfl, web_insT updA_same fun _ _ _ => rfl, EvA.wp (eva_cons (B.nm (i := 3) rfl rfl (.inl rfl)) eva_nil) ⟨p, lp, webOf (ns.take i), ns[i], rfl, updA_same, hsz, by rw [webOf_people, List.length_take]; omega, fun _ _ _ => ?_, fun h => ?_, fun _ h => ?_, fun _ _ h => ?_⟩⟩)))
    rotate_left
    · rw [(hgood _ hmem).1] at h; cases h
    · rw [webOf_people] at h; exact (hnot h).elim
    · rw [webOf_people, List.length_take] at h; omega
    refine wpb_nil ⟨_, Vw.refl _, some (.str ns[i]), v4, ?_, rfl⟩
    rw [updA_updA, take_snoc (List.getElem?_eq_getElem hi'), webOf_snoc]
  · subst eA eδ
    rw [List.length_map, List.take_length]
    have gd := good_webOf ns nd h24
    have gT : ∀ i, Good ((ts.take i).foldl (fun W t => W.tie t.1 t.2) (webOf ns)) := fun i => good_fold _ _ gd fun t ht => by rw [webOf_people]; exact hts t (List.mem_of_mem_take ht)
    refine wpb_cons (B.for_ (wpi_list (Ev.wp (B.nm (i := 1) rfl rfl (.inl rfl)) ⟨l2, _, rfl, sb _ _ _ hl2, fun i δ' A' => ∃ (v4 : Option TL.D), A' = updA A p (.abs (isWeb (cW X.K) lp p ((ts.take i).foldl (fun W t => W.tie t.1 t.2) (webOf ns)))) ∧ δ' = [some (.ref l), some (.ref l2), some (.ref p), v3, v4], ⟨v4, rfl, rfl⟩, fun i δ' A' _ ⟨_, eA, _⟩ => by rw [eA]; exact sb _ _ _ hl2, fun i δ' A' hi ⟨v4, eA, eδ⟩ => ?_, fun δ' A' ⟨v4, eA, eδ⟩ => ?_⟩)))
    · subst eA eδ
      have hi' : i < ts.length := by simpa using hi
      have hmem := hts _ (List.getElem_mem hi')
      refine WPG.to (B.tn (i := 4) rfl (.inl rfl) ?_) (getD_map hi')
      have en : (ts.take (i + 1)).foldl (fun W t => W.tie t.1 t.2) (webOf ns) = ((ts.take i).foldl (fun W t => W.tie t.1 t.2) (webOf ns)).tie ts[i].1 ts[i].2 := by
        rw [take_snoc (List.getElem?_eq_getElem hi'), List.foldl_append]; rfl
      have g := gT i
      have gp : ((ts.take i).foldl (fun W t => W.tie t.1 t.2) (webOf ns)).people = ns := by rw [fold_tie_people, webOf_people]
      generalize (ts.take i).foldl (fun W t => W.tie t.1 t.2) (webOf ns) = W at g gp en ⊢
      rcases ht : ts[i] with ⟨t1, t2⟩
      rw [ht] at hmem en
      have d4 : ∀ {A : AH} {pos : Pos}, Ev X (.Name "_law_tie" pos) [some (.ref l), some (.ref l2), some (.ref p), v3, some (pr (t1, t2))] A (.tup [.str t1, .str t2]) := B.nm (i := 4) rfl rfl (.inl rfl)
      refine wpb_cons (wps_putO (ET := NoX) M.set G.seq Fs (room.mono (by omega)) pass0 (Ev.wp ev_bl (Ev.wp (B.nm (i := 2) rfl rfl (.inl rfl)) (Ev.wp (ev_tup (eva_cons (ev_ix d4 ev_int (ixv_tup (z := .str t1) rfl)) (eva_cons (ev_ix d4 ev_int (ixv_tup (z := .str t2) rfl)) eva_nil)) (show 2 ≤ sizeLine by decide)) ⟨p, rfl, web_insC updA_same, p, lp, W, t1, t2, true, rfl, updA_same, ⟨g.nd, g.len, g.rnd, g.tnd, g.tin⟩, fun _ _ _ => ?_, fun h => (h (by rw [gp]; exact hmem.1)).elim, fun _ h => (h (by rw [gp]; exact hmem.2)).elim, fun _ _ h => nomatch h⟩))))
      refine wpb_nil ⟨_, Vw.refl _, some (pr (t1, t2)), ?_, rfl⟩
      rw [updA_updA, en]
    · subst eA eδ
      rw [List.length_map, List.take_length]
      exact wpb_cons (wps_ret (Ev.wp (B.nm (i := 2) rfl rfl (.inl rfl)) (RV.mk (q p lp hp hlp))))
end TL
/-! the law's functions that catch -/
namespace TL
open PySem PySem.Spec PyProof.Rows L2
variable {P : Program} {w : World} {K : PySem.W.Frag} {mg : Str → Option Value} {base : Heap} {k : Nat}
theorem AX.sub {K : PySem.W.Frag} {A A1 : AH} {o : Option Addr} {fs : List (Str × TL.D)} (h : AX K A o fs A1) : TL.Sub A A1 := by
  cases o with
  | none => obtain ⟨_, rfl⟩ := h; exact Sub.refl _
  | some d => obtain ⟨h1, rfl⟩ := h; exact Sub.upd (Sub.refl A) h1
theorem wHT.yes {X : Cx} {ETo : TXQ} {δ : Ds} {D : TEnds} {h : HdT} {r : List HdT} {cls : Value} {fs : List (Str × TL.D)} {A : AH} (hb : PySem.W.exmOne X.K cls h.c = some true)
    (q : ∀ (a : Addr) (ox : Obj) (o : Option Addr) (pn : List (Addr × Obj)) (A1 : AH), L2N.Zn cls o ox → (∃ vs, ox.data = .fields vs) → AX X.K A o fs A1 → WPB0 (X.suite a ((a, ox) :: pn)) h.st (setD a h.i δ) A1 (endT h.i D)) : wHT X ETo δ D (h :: r) cls fs A := ⟨true, hb, fun _ => q, fun z => Bool.noConfusion z⟩
theorem wHT.no {X : Cx} {ETo : TXQ} {δ : Ds} {D : TEnds} {h : HdT} {r : List HdT} {cls : Value} {fs : List (Str × TL.D)} {A : AH} (hb : PySem.W.exmOne X.K cls h.c = some false) (q : wHT X ETo δ D r cls fs A) : wHT X ETo δ D (h :: r) cls fs A := ⟨false, hb, fun z => Bool.noConfusion z, fun _ => q⟩
abbrev exm (K : PySem.W.Frag) (x y : Str) (b : Bool) : Prop := PySem.W.exmOne K (.ref (He.ga K x)) (.ref (He.ga K y)) = some b
end TL
/-! what the law asks of a web -/
namespace TL
open PySem PySem.Spec PyProof.Rows L2

section
variable {X : Cx} {N : List Str} {sc : Scope} {δ : Ds} {A : AH} {Q : TQ} {e : Expr} {p1 p2 p3 : Pos}
theorem ev_drop {z : TL.D} (h : ∀ A1, TL.Sub A A1 → WPE X e δ A1 fun d A' => d = z ∧ TL.Sub A1 A') : Ev X e δ A z := fun A1 k Q q => WPE.monoV (h A1 k) fun d A' ⟨e, s⟩ => ⟨A1, Vw.sub s, by rw [e]; exact q⟩
theorem et_drop {z : Bool} (h : ∀ A1, TL.Sub A A1 → WPT X e δ A1 fun d A' => d = z ∧ TL.Sub A1 A') : EvT X e δ A z := fun A1 k Q q => WPT.monoV (h A1 k) fun d A' ⟨e, s⟩ => ⟨A1, Vw.sub s, by rw [e]; exact q⟩
/-- the functions of the class, and what they promise -/
structure WebFn (X : Cx) : Prop where
  G : WebK X.K X.mg
  M : WebM X.K
  it : ItFn X.prog X.w X.K X.mg X.base 1 (wm X.K "__iter__") (cW X.K) "_people"
  len : FnT X.prog X.w X.K X.mg X.base 1 (wm X.K "__len__") (tpWLen X.K)
  has : FnT X.prog X.w X.K X.mg X.base 1 (wm X.K "__contains__") (tpWHas X.K)
  get : FnT X.prog X.w X.K X.mg X.base 4 (wm X.K "__getitem__") (tpGet X.K)
  set : FnT X.prog X.w X.K X.mg X.base 4 (wm X.K "__setitem__") (tpSet X.K)
  wel : FnT X.prog X.w X.K X.mg X.base 4 (wm X.K "welcome") (tpWelcome X.K)
  ini : FnT X.prog X.w X.K X.mg X.base 5 (wm X.K "__init__") (tpInitS X.K)
  prp : ∃ pa g, PropOf X.K (cW X.K) "ties" pa g ∧ FnT X.prog X.w X.K X.mg X.base 1 g (tpTies X.K)
  room : Room 8 X.A
variable {p lp : Addr} {W : WebD} {o : Expr}
theorem WebFn.list (F : WebFn X) (B : BC X N sc) (hg : sc.names.lookup ("list" : Str) = some .globalImplicit) (he : Ev X o δ A (.ref p)) (hp : A p = some (.abs (isWeb (cW X.K) lp p W))) (hl : W.people.length ≤ 24)
    (hq : ∀ q A2, TL.Sub A A2 → A2 q = some (.prim (.lst (W.people.map .str))) → Q (.ref q) A2) (hs : starEach [o] X.env = (false, eval o X.env) :: starEach [] X.env := by rfl) : WPE X (.Call (.Name "list" p1) [o] [] p2) δ A Q := by
  have hz : W.people.length ≤ sizeLine := by rw [sizeLine_eq]; omega
  refine B.callT hg F.G.flist bt_list (EvA.wp (eva_cons he eva_nil hs) ?_) (he := hs)
  refine caw_listO (l := lp) (xs := W.people.map .str) F.M.iter F.it (F.room.mono (by omega)) (fldO_abs hp fun m ⟨lt, lr, ad, h1, _⟩ => ⟨_, h1, rfl⟩) (.inr ⟨p, _, hp, fun m ⟨lt, lr, ad, _, h2, _⟩ => h2⟩) (by rw [List.length_map]; exact hz) fun q hqn => ?_
  have sA := Sub.upd (o := .prim (.lst [])) (Sub.refl A) hqn
  refine hint_len F.M.len F.len (F.room.mono (by omega)) (web_insC (sA _ _ hp)) ⟨p, lp, W, rfl, sA _ _ hp, W.people.length, rfl, hz, updA_same, .inr ⟨p, _, sA _ _ hp, fun m ⟨lt, lr, ad, _, h2, _⟩ => h2⟩, ?_⟩
  rw [updA_updA]
  exact hq q _ (Sub.upd (Sub.refl A) hqn) updA_same
theorem WebFn.ties (F : WebFn X) (he : Ev X o δ A (.ref p)) (hp : A p = some (.abs (isWeb (cW X.K) lp p W))) (hq : ∀ q, A q = none → Q (.ref q) (updA A q (.prim (.lst (W.ties.map pr))))) (hb : attributeBase o "ties" X.env (eval o X.env) = eval o X.env := by rfl) : WPE X (.Attribute o "ties" p1) δ A Q := by
  obtain ⟨pa, g, h1, h2⟩ := F.prp
  exact wpe_prop F.G.cls h1 h2 (F.room.mono (by omega)) (he.wp ⟨p, rfl, web_insC hp, p, lp, W, rfl, hp, hq⟩) hb
theorem WebFn.cavLen (F : WebFn X) (hp : A p = some (.abs (isWeb (cW X.K) lp p W))) (hl : W.people.length ≤ 24) : CaV X (.builtin "len") [.ref p] A (.int W.people.length) := fun A1 k Q q =>
  caw_lenO F.M.len F.len (F.room.mono (by omega)) (web_insC (k _ _ hp)) ⟨p, lp, W, rfl, k _ _ hp, W.people.length, rfl, by omega, q⟩
theorem WebFn.inn (F : WebFn X) (hp : A p = some (.abs (isWeb (cW X.K) lp p W))) (n : Str) : OpV X (compareOp .In) (.str n) (.ref p) A (.bl (decide (n ∈ W.people))) := fun A1 k Q q =>
  opw_inO (ET := NoX) F.M.has F.has (F.room.mono (by omega)) passT0 (web_insC (k _ _ hp)) ⟨p, lp, W, n, rfl, k _ _ hp, _, rfl, q⟩
theorem WebFn.nin (F : WebFn X) (hp : A p = some (.abs (isWeb (cW X.K) lp p W))) (n : Str) : OpV X (compareOp .NotIn) (.str n) (.ref p) A (.bl (!decide (n ∈ W.people))) := fun A1 k Q q =>
  opw_ninO (ET := NoX) F.M.has F.has (F.room.mono (by omega)) passT0 (web_insC (k _ _ hp)) ⟨p, lp, W, n, rfl, k _ _ hp, _, rfl, q⟩
theorem u_eqS (r : Room 8 X.A) : X.A.units + (PySem.W.Datum.depth Str + 1) < cLine := by have := r.units; show _ + (0 + 1) < _; omega
theorem u_eqP (r : Room 8 X.A) : X.A.units + (PySem.W.Datum.depth (Str × Str) + 1) < cLine := by have := r.units; show _ + ((0 + 1) + 1) < _; omega
/-- list(web) != a list that stands, that is new -/
theorem WebFn.listNe (F : WebFn X) (B : BC X N sc) (hg : sc.names.lookup ("list" : Str) = some .globalImplicit) (he : Ev X o δ A (.ref p)) (hp : A p = some (.abs (isWeb (cW X.K) lp p W))) (hl : W.people.length ≤ 24) {r : Addr} {ys : List Str} (h2 : Ev X e δ A (.ref r)) (hr : A r = some (.prim (.lst (ys.map .str))))
    (hm : behindInMarks .NotEq e = false := by rfl) (hs : starEach [o] X.env = (false, eval o X.env) :: starEach [] X.env := by rfl) : EvT X (.Compare (.Call (.Name "list" p1) [o] [] p2) [.NotEq] [e] p3) δ A (decide (W.people ≠ ys)) :=
  et_drop fun A1 k => wpt_cmp hm (F.list B hg (he.sub k) (k _ _ hp) hl (fun q A2 s hq => (h2.sub (k.trans s)).wp (OpV.w (opv_neL (xs := W.people) (ys := ys) hq (s _ _ (k _ _ hr)) (u_eqS F.room)) ⟨_, rfl, rfl, s⟩)) hs)
theorem WebFn.listNeN (F : WebFn X) (B : BC X N sc) (hg : sc.names.lookup ("list" : Str) = some .globalImplicit) (he : Ev X o δ A (.ref p)) (hp : A p = some (.abs (isWeb (cW X.K) lp p W))) (hl : W.people.length ≤ 24) {ys : List Str} (h2 : EvN X e δ A (.lst (ys.map .str)))
    (hm : behindInMarks .NotEq e = false := by rfl) (hs : starEach [o] X.env = (false, eval o X.env) :: starEach [] X.env := by rfl) : EvT X (.Compare (.Call (.Name "list" p1) [o] [] p2) [.NotEq] [e] p3) δ A (decide (W.people ≠ ys)) :=
  et_drop fun A1 k => wpt_cmp hm (F.list B hg (he.sub k) (k _ _ hp) hl (fun q A2 s hq => (h2.sub (k.trans s)).wp fun r hr => OpV.w (opv_neL (xs := W.people) (ys := ys) (upd_new hq hr) updA_same (u_eqS F.room)) ⟨_, rfl, rfl, s.trans (Sub.upd (Sub.refl _) hr)⟩) hs)
theorem WebFn.listEq (F : WebFn X) (B : BC X N sc) (hg : sc.names.lookup ("list" : Str) = some .globalImplicit) (he : Ev X o δ A (.ref p)) (hp : A p = some (.abs (isWeb (cW X.K) lp p W))) (hl : W.people.length ≤ 24) {r : Addr} {ys : List Str} (h2 : Ev X e δ A (.ref r)) (hr : A r = some (.prim (.lst (ys.map .str))))
    (hm : behindInMarks .Eq e = false := by rfl) (hs : starEach [o] X.env = (false, eval o X.env) :: starEach [] X.env := by rfl) : Ev X (.Compare (.Call (.Name "list" p1) [o] [] p2) [.Eq] [e] p3) δ A (.bl (decide (W.people = ys))) :=
  ev_drop fun A1 k => wpe_cmp hm (F.list B hg (he.sub k) (k _ _ hp) hl (fun q A2 s hq => (h2.sub (k.trans s)).wp (OpV.w (opv_eqL (xs := W.people) (ys := ys) hq (s _ _ (k _ _ hr)) (u_eqS F.room)) ⟨rfl, s⟩)) hs)
theorem WebFn.tiesNe (F : WebFn X) (he : Ev X o δ A (.ref p)) (hp : A p = some (.abs (isWeb (cW X.K) lp p W))) {r : Addr} {ys : List (Str × Str)} (h2 : Ev X e δ A (.ref r)) (hr : A r = some (.prim (.lst (ys.map pr))))
    (hm : behindInMarks .NotEq e = false := by rfl) (hb : attributeBase o "ties" X.env (eval o X.env) = eval o X.env := by rfl) : EvT X (.Compare (.Attribute o "ties" p1) [.NotEq] [e] p3) δ A (decide (W.ties ≠ ys)) :=
  et_drop fun A1 k => wpt_cmp hm (F.ties (he.sub k) (k _ _ hp) (fun q hq => (h2.sub (k.trans (Sub.upd (Sub.refl _) hq))).wp (OpV.w (opv_neL (xs := W.ties) (ys := ys) updA_same (upd_new (k _ _ hr) hq) (u_eqP F.room)) ⟨_, rfl, rfl, Sub.upd (Sub.refl _) hq⟩)) hb)
theorem WebFn.tiesNeN (F : WebFn X) (he : Ev X o δ A (.ref p)) (hp : A p = some (.abs (isWeb (cW X.K) lp p W))) {ys : List (Str × Str)} (h2 : EvN X e δ A (.lst (ys.map pr)))
    (hm : behindInMarks .NotEq e = false := by rfl) (hb : attributeBase o "ties" X.env (eval o X.env) = eval o X.env := by rfl) : EvT X (.Compare (.Attribute o "ties" p1) [.NotEq] [e] p3) δ A (decide (W.ties ≠ ys)) :=
  et_drop fun A1 k => wpt_cmp hm (F.ties (he.sub k) (k _ _ hp) (fun q hq => (h2.sub (k.trans (Sub.upd (Sub.refl _) hq))).wp fun r hr => OpV.w (opv_neL (xs := W.ties) (ys := ys) (upd_new updA_same hr) updA_same (u_eqP F.room)) ⟨_, rfl, rfl, (Sub.upd (Sub.refl _) hq).trans (Sub.upd (Sub.refl _) hr)⟩) hb)
theorem WebFn.tiesEq (F : WebFn X) (he : Ev X o δ A (.ref p)) (hp : A p = some (.abs (isWeb (cW X.K) lp p W))) {r : Addr} {ys : List (Str × Str)} (h2 : Ev X e δ A (.ref r)) (hr : A r = some (.prim (.lst (ys.map pr))))
    (hm : behindInMarks .Eq e = false := by rfl) (hb : attributeBase o "ties" X.env (eval o X.env) = eval o X.env := by rfl) : Ev X (.Compare (.Attribute o "ties" p1) [.Eq] [e] p3) δ A (.bl (decide (W.ties = ys))) :=
  ev_drop fun A1 k => wpe_cmp hm (F.ties (he.sub k) (k _ _ hp) (fun q hq => (h2.sub (k.trans (Sub.upd (Sub.refl _) hq))).wp (OpV.w (opv_eqL (xs := W.ties) (ys := ys) updA_same (upd_new (k _ _ hr) hq) (u_eqP F.room)) ⟨rfl, Sub.upd (Sub.refl _) hq⟩)) hb)
end
end TL
/-! strangers of two letters -/
namespace TL
open PySem PySem.Spec PyProof.Rows L2
variable {P : Program} {w : World} {K : PySem.W.Frag} {mg : Str → Option Value} {base : Heap} {k : Nat}
def zed (c : Nat) : Str := ("z" : Str) ++ ⟨#[c]⟩
def freeOf (ns : List Str) : List Str := (letters.cps.toList.filter fun c => !decide (zed c ∈ ns)).map zed
def tpLStr (K : PySem.W.Frag) : TSp := fun ds A Q E => ∃ l, ∃ ns : List Str, ds = [.ref l] ∧ A l = some (.prim (.lst (ns.map .str))) ∧ ∀ q, A q = none → Q (.ref q) (updA A q (.prim (.lst ((freeOf ns).map .str))))
theorem sc_lstr : FnScope N_law_strangers ["_law_names_here"] (defScope s_law_strangers) := ⟨rfl, rfl, rfl, by decide +kernel, rfl, by decide +kernel, by decide +kernel⟩
theorem body_lstr : BodyT P w K mg base N_law_strangers (defScope s_law_strangers) k (defBody s_law_strangers) (tpLStr K) := by
  intro X bd ds A Q ET hx ⟨l, ns, e, hl, q⟩
  obtain ⟨rfl, rfl, rfl, rfl, rfl, B, room, _, _⟩ := bd
  subst e
  have u1 : X.A.units + 1 + 0 < cLine := by have := room.units; omega
  refine wpb_cons (B.set (i := 1) rfl (.inl rfl) (Ev.wp ev_str ?_))
  refine wpb_cons (wps_ret (EvN.wp (BC.elc (own := [("_law_letter", 2)]) (ys := letters.cps.toList) (en := fun c => .str ⟨#[c]⟩) (.one _) (fun c => !decide (zed c ∈ ns)) (fun c => .str (zed c)) B (by decide +kernel) (j := 2) rfl rfl (by decide) (evi_str (B.nm (i := 1) rfl rfl (.inl rfl))) (by decide) (fun c _ s H0 C cl fp => ?_) fun c _ _ s H0 C cl fp => ?_) fun p hp => ?_))
  · exact EvT.to (et_cmp (ev_bin ev_str (B.toBC.blk.nm (i := 2) rfl rfl (.inl rfl)) (opv_adds (show 1 + 1 ≤ sizeLine by decide))) (B.toBC.blk.nm (i := 0) rfl rfl (.inr (.inr rfl))) (opv_notInL (x := zed c) (ys := ns) hl u1) rfl) (by simp)
  · exact ev_bin ev_str (B.toBC.blk.nm (i := 2) rfl rfl (.inl rfl)) (opv_adds (show 1 + 1 ≤ sizeLine by decide))
  · refine RV.mk ?_
    have := q p hp
    unfold freeOf at this
    rw [List.map_map] at this
    exact this
end TL
/-! slices of texts; comprehensions over a list that is made there -/
namespace TL
open PySem PySem.Spec PyProof.Rows L2
section
variable {X : Cx} {N : List Str} {sc : Scope} {δ : Ds} {A : AH} {Q : TQ} {D : TEnds} {a e elt iter : Expr} {pos : Pos}
theorem ev_sliceS {lo hi : Option Expr} {l h : Option Int} {z : Str} {p2 : Pos} (ha : Ev X a δ A (.str z)) (hl : EvP X δ A lo l) (hh : EvP X δ A hi h) (hz : z.length ≤ sizeLine) : Ev X (.Subscript a (.Slice lo hi none p2) pos) δ A (.str (cutS z l h)) := fun A1 k Q q σ H s r => by
  refine runE.of (pe_slice sl_str pe_run po_run po_run) (runE.mono (ha A1 k (fun v A2 => v = .str z ∧ A2 = A1) ⟨rfl, rfl⟩ σ H s r) fun v H1 ⟨d, A2, k1, rp, hr, e1, e2⟩ => ?_)
  subst e1 e2
  cases rp
  refine fun pins s' I => thn (hl.go k (s.keep k1) hr pins s' I) fun u s1 ⟨o1, H2, I2, pl, e1, k2, hr2⟩ => ⟨o1, H2, I2, pl, ?_⟩
  subst e1
  refine fun pins s' I => thn (hh.go k ((s.keep k1).keep k2) hr2 pins s' I) fun u s1 ⟨o2, H3, I3, pl, e2, k3, hr3⟩ => ⟨o2, H3, I3, pl, ?_⟩
  subst e2
  exact ⟨z, rfl, hz, .str (cutS z o1 o2), A2, (k1.trans k2).trans k3, .str, hr3, q⟩
theorem Sub.both {A B : AH} {t : Addr} {o : AO} (h : TL.Sub A B) : TL.Sub (updA A t o) (updA B t o) := fun b u hb => by
  by_cases q : b = t
  · subst q; rw [updA_same] at hb ⊢; exact hb
  · rw [updA_ne q] at hb ⊢; exact h b u hb
theorem EvN.via {o : MO} (h : ∀ A1, TL.Sub A A1 → WPE X e δ A1 fun d A' => ∃ t, d = .ref t ∧ A1 t = none ∧ TL.Sub (updA A1 t (.prim o)) A') : EvN X e δ A o := fun A1 k Q q =>
  WPE.monoV (h A1 k) fun d A' ⟨t, e, hn, s⟩ => ⟨updA A1 t (.prim o), Vw.sub s, e ▸ q t hn⟩
theorem lc_pureN {α : Type} {scope : Scope} {own : List (Str × Nat)} {s : Str} {j : Nat} {pt : Pos} {ys : List α} {en : α → TL.D} (q : Ifs) (kq : α → Bool) (g : α → TL.D)
    (hi : EvN X iter δ A (.lst (ys.map en))) (hz : ys.length ≤ sizeLine) (ht : ∀ y ∈ ys, EvF X scope ((wipeD δ (own.map (·.2))).set j (some (en y))) A (kq y) q)
    (he : ∀ y ∈ ys, kq y = true → ∀ s H0 C cl fp, Ev (Blk X scope s H0 C cl fp) elt ((wipeD δ (own.map (·.2))).set j (some (en y))) A (g y)) {A1 : AH} (k : Sub A A1) :
    WPI X (.Name s pt) iter δ A1 fun n f G A2 => ∀ Dl, A2 Dl = none → ∃ (W : Nat → AH → Prop) (kp : Nat → Bool), W 0 (updA A2 Dl (.prim (.lst []))) ∧ (∀ i A', i ≤ n → W i A' → G A') ∧
      (∀ i A', i < n → W i A' → EvF X scope ((wipeD δ (own.map (·.2))).set j (some (f i))) A' (kp i) q ∧
        (kp i = true → ∀ s H0 C cl fp, WPE (Blk X scope s H0 C cl fp) elt ((wipeD δ (own.map (·.2))).set j (some (f i))) A' fun d A4 => ∃ acc, A4 Dl = some (.prim (.lst acc)) ∧ acc.length < sizeLine ∧ WVA W (i + 1) (updA A4 Dl (.prim (.lst (acc ++ [d]))))) ∧
        (kp i = false → WVA W (i + 1) A')) ∧
      (∀ A', W n A' → ∃ t, TL.D.ref Dl = .ref t ∧ A1 t = none ∧ TL.Sub (updA A1 t (.prim (.lst ((ys.filter kq).map g)))) A') := by
  refine wpi_list (hi A1 k _ fun p hp => ⟨p, ys.map en, rfl, updA_same, fun Dl hD => ?_⟩)
  have s1 := Sub.upd (o := .prim (.lst (ys.map en))) (Sub.refl A1) hp
  have hf : ∀ i, i < (ys.map en).length → (ys.map en)[i]? = some ((ys.map en).getD i .non) := fun i hi => getD_some hi
  have hyi : ∀ i, i < (ys.map en).length → ∃ y, ys[i]? = some y ∧ (ys.map en).getD i .non = en y ∧ y ∈ ys := fun i hi => by
    have z := hf i hi
    rw [List.getElem?_map] at z
    cases e : ys[i]? with
    | none => rw [e] at z; cases z
    | some y => rw [e] at z; exact ⟨y, rfl, (Option.some.inj z).symm, List.mem_of_getElem? e⟩
  generalize hA2 : updA A1 p (.prim (.lst (ys.map en))) = A2 at *
  have hp2 : A2 p = some (.prim (.lst (ys.map en))) := by rw [← hA2]; exact updA_same
  refine ⟨fun i A' => A' = updA A2 Dl (.prim (.lst (((ys.take i).filter kq).map g))), fun i => match ys[i]? with | some y => kq y | none => false, by simp, fun i A' _ w => by subst w; exact Sub.upd (Sub.refl A2) hD _ _ hp2, fun i A' hi w => ?_, fun A' w => ?_⟩
  · subst w
    obtain ⟨y, hy, hfy, hmem⟩ := hyi i hi
    have sub : Sub A (updA A2 Dl (.prim (.lst (((ys.take i).filter kq).map g)))) := (k.trans s1).trans (Sub.upd (Sub.refl A2) hD)
    have ek : (match ys[i]? with | some y => kq y | none => false) = kq y := by rw [hy]
    have etk : ys.take (i + 1) = ys.take i ++ [y] := by rw [List.take_succ, hy]; rfl
    have hlen : i < ys.length := (List.getElem?_eq_some_iff.mp hy).1
    simp only [ek, hfy]
    refine ⟨?_, fun hk s H0 C cl fp => ?_, fun hk => ?_⟩
    · have z := ht y hmem
      cases q with
      | no => exact z
      | one c => exact fun s H0 C cl fp => EvT.sub (z s H0 C cl fp) sub
    · refine (he y hmem hk s H0 C cl fp) _ sub _ ⟨_, updA_same, ?_, _, Vw.refl _, ?_⟩
      · have h1 := List.length_filter_le kq (ys.take i)
        rw [List.length_map]
        have h2 : (ys.take i).length ≤ i := by rw [List.length_take]; exact Nat.min_le_left ..
        omega
      · dsimp only
        rw [updA_updA, etk, List.filter_append, List.map_append]
        simp [List.filter_cons, hk]
    · refine ⟨_, Vw.refl _, ?_⟩
      dsimp only
      rw [etk, List.filter_append, List.map_append]
      simp [List.filter_cons, hk]
  · subst w
    rw [List.length_map, List.take_length]
    exact ⟨Dl, rfl, Sub.none s1 hD, Sub.both s1⟩
/-- a comprehension over a list that is made there -/
theorem BC.elcN {α : Type} {scope : Scope} {own : List (Str × Nat)} {s : Str} {j : Nat} {pt : Pos} {ys : List α} {en : α → TL.D} (q : Ifs) (kp : α → Bool) (g : α → TL.D) (B : SC X N sc) (ok : blkC N sc scope own = true) (hj : N[j]? = some s) (hl : scope.names.lookup s = some .local) (hv : j ∈ own.map (·.2))
    (hi : EvN X iter δ A (.lst (ys.map en))) (hz : ys.length ≤ sizeLine) (ht : ∀ y ∈ ys, EvF X scope ((wipeD δ (own.map (·.2))).set j (some (en y))) A (kp y) q)
    (he : ∀ y ∈ ys, kp y = true → ∀ s H0 C cl fp, Ev (Blk X scope s H0 C cl fp) elt ((wipeD δ (own.map (·.2))).set j (some (en y))) A (g y)) (hs : ∀ x, foldedSetIterable iter X.env x = pure x := by intro _; rfl) :
    EvN X (.ListComp elt [⟨.Name s pt, iter, q.list, 0⟩] scope pos) δ A (.lst ((ys.filter kp).map g)) := EvN.via fun A1 k => BC.lc q B ok hj hl hv (lc_pureN q kp g hi hz ht he k) hs
end
end TL
/-! many people at once: _law_makers -/
namespace TL
open PySem PySem.Spec PyProof.Rows L2
variable {P : Program} {w : World} {K : PySem.W.Frag} {mg : Str → Option Value} {base : Heap} {k : Nat}
theorem cutD_take {α : Type} {xs : List α} {j : Nat} (h : j ≤ xs.length) : cutD xs none (some (j : Int)) = xs.take j := by
  unfold cutD
  rw [HT.sIx_nat, HT.sIx_none, Nat.min_eq_left h]; rfl
section
variable {X : Cx} {N : List Str} {sc : Scope} {δ : Ds} {A : AH} {Q : TQ} {e e2 : Expr} {p1 p2 p3 : Pos}
/-- a + b of two new lists -/
theorem evn_cat {xs ys : List TL.D} {pos : Pos} (ha : EvN X e δ A (.lst xs)) (hb : EvN X e2 δ A (.lst ys)) (hl : xs.length + ys.length ≤ sizeLine) : EvN X (.BinOp e .Add e2 pos) δ A (.lst (xs ++ ys)) :=
  EvN.via fun A1 k => wpe_bin ((ha.sub k).wp fun p hp => (hb.sub (k.trans (Sub.upd (Sub.refl _) hp))).wp fun q hq => opn_cat (upd_new updA_same hq) updA_same hl _ (Sub.refl _) _ fun t ht =>
    ⟨t, rfl, Sub.none ((Sub.upd (Sub.refl _) hp).trans (Sub.upd (Sub.refl _) hq)) ht, Sub.both ((Sub.upd (Sub.refl _) hp).trans (Sub.upd (Sub.refl _) hq))⟩)
/-- a + b of a list that stands and a new one -/
theorem evn_cat1 {p : Addr} {xs ys : List TL.D} {pos : Pos} (ha : Ev X e δ A (.ref p)) (hp : A p = some (.prim (.lst xs))) (hb : EvN X e2 δ A (.lst ys)) (hl : xs.length + ys.length ≤ sizeLine) : EvN X (.BinOp e .Add e2 pos) δ A (.lst (xs ++ ys)) :=
  EvN.via fun A1 k => wpe_bin ((ha.sub k).wp ((hb.sub k).wp fun q hq => opn_cat (upd_new (k _ _ hp) hq) updA_same hl _ (Sub.refl _) _ fun t ht =>
    ⟨t, rfl, Sub.none (Sub.upd (Sub.refl _) hq) ht, Sub.both (Sub.upd (Sub.refl _) hq)⟩))
/-- a + b of a new list and one that stands -/
theorem evn_cat2 {p : Addr} {xs ys : List TL.D} {pos : Pos} (ha : EvN X e δ A (.lst xs)) (hb : Ev X e2 δ A (.ref p)) (hp : A p = some (.prim (.lst ys))) (hl : xs.length + ys.length ≤ sizeLine) : EvN X (.BinOp e .Add e2 pos) δ A (.lst (xs ++ ys)) :=
  EvN.via fun A1 k => wpe_bin ((ha.sub k).wp fun q hq => (hb.sub (k.trans (Sub.upd (Sub.refl _) hq))).wp (opn_cat updA_same (upd_new (k _ _ hp) hq) hl _ (Sub.refl _) _ fun t ht =>
    ⟨t, rfl, Sub.none (Sub.upd (Sub.refl _) hq) ht, Sub.both (Sub.upd (Sub.refl _) hq)⟩))
variable {p lp : Addr} {W : WebD} {o : Expr}
theorem WebFn.listEqN (F : WebFn X) (B : BC X N sc) (hg : sc.names.lookup ("list" : Str) = some .globalImplicit) (he : Ev X o δ A (.ref p)) (hp : A p = some (.abs (isWeb (cW X.K) lp p W))) (hl : W.people.length ≤ 24) {ys : List Str} (h2 : EvN X e δ A (.lst (ys.map .str)))
    (hm : behindInMarks .Eq e = false := by rfl) (hs : starEach [o] X.env = (false, eval o X.env) :: starEach [] X.env := by rfl) : Ev X (.Compare (.Call (.Name "list" p1) [o] [] p2) [.Eq] [e] p3) δ A (.bl (decide (W.people = ys))) :=
  ev_drop fun A1 k => wpe_cmp hm (F.list B hg (he.sub k) (k _ _ hp) hl (fun q A2 s hq => (h2.sub (k.trans s)).wp fun r hr => OpV.w (opv_eqL (xs := W.people) (ys := ys) (upd_new hq hr) updA_same (u_eqS F.room)) ⟨rfl, s.trans (Sub.upd (Sub.refl _) hr)⟩) hs)
theorem WebFn.tiesEqN (F : WebFn X) (he : Ev X o δ A (.ref p)) (hp : A p = some (.abs (isWeb (cW X.K) lp p W))) {ys : List (Str × Str)} (h2 : EvN X e δ A (.lst (ys.map pr)))
    (hm : behindInMarks .Eq e = false := by rfl) (hb : attributeBase o "ties" X.env (eval o X.env) = eval o X.env := by rfl) : Ev X (.Compare (.Attribute o "ties" p1) [.Eq] [e] p3) δ A (.bl (decide (W.ties = ys))) :=
  ev_drop fun A1 k => wpe_cmp hm (F.ties (he.sub k) (k _ _ hp) (fun q hq => (h2.sub (k.trans (Sub.upd (Sub.refl _) hq))).wp fun r hr => OpV.w (opv_eqL (xs := W.ties) (ys := ys) (upd_new updA_same hr) updA_same (u_eqP F.room)) ⟨rfl, (Sub.upd (Sub.refl _) hq).trans (Sub.upd (Sub.refl _) hr)⟩) hb)
end
end TL
/-! plain: odd strings, strangers, the list of the ties -/
namespace TL
open PySem PySem.Spec PyProof.Rows L2
theorem isName_bad {z : Str} {c : Nat} (hc : c ∈ z.cps.toList) (hn : c ∉ letters.cps.toList) : isName z = false := by
  unfold isName
  have : (z.cps.toList.all fun c => decide (c ∈ letters.cps.toList)) = false := by
    rw [List.all_eq_false]
    exact ⟨c, hc, by simpa using hn⟩
  rw [this, Bool.and_false]
theorem mem_mid {a b : Str} {c : Nat} : c ∈ (a ++ ⟨#[c]⟩ ++ b).cps.toList := by
  have e : (a ++ (⟨#[c]⟩ : Str) ++ b).cps = (a.cps ++ #[c]) ++ b.cps := rfl
  rw [e, Array.toList_append, Array.toList_append]
  simp
theorem str_len_app (a b : Str) : (a ++ b).length = a.length + b.length := by
  show (a.cps ++ b.cps).size = _
  rw [Array.size_append]; rfl
theorem isName_len {z : Str} (h : isName z = true) : 1 ≤ z.length ∧ z.length ≤ 8 := by
  unfold isName at h
  simp only [Bool.and_eq_true, decide_eq_true_eq] at h
  omega
theorem long_bad {z : Str} (h : 1 ≤ z.length) : isName (z ++ "aaaaaaaa") = false := by
  cases e : isName (z ++ "aaaaaaaa") with
  | false => rfl
  | true =>
    have := (isName_len e).2
    rw [str_len_app, show (("aaaaaaaa" : Str)).length = 8 by decide +kernel] at this
    omega
theorem empty_bad : isName "" = false := by decide +kernel
theorem zed_cps (c : Nat) : (zed c).cps = #[122, c] := rfl
theorem zed_inj {c d : Nat} (h : zed c = zed d) : c = d := by
  have := congrArg Str.cps h
  rw [zed_cps, zed_cps] at this
  simpa using this
theorem zed_ok : ∀ c ∈ letters.cps.toList, isName (zed c) = true := by decide +kernel
theorem nodup_map_zed : ∀ {l : List Nat}, l.Nodup → (l.map zed).Nodup
  | [], _ => List.nodup_nil
  | a :: l, h => by
    rw [List.nodup_cons] at h
    rw [List.map_cons, List.nodup_cons]
    refine ⟨fun z => ?_, nodup_map_zed h.2⟩
    obtain ⟨b, hb, e⟩ := List.mem_map.mp z
    rw [← zed_inj e] at h
    exact h.1 hb
theorem letters_nd : letters.cps.toList.Nodup := by decide +kernel
theorem filter_len {α : Type} (p : α → Bool) : ∀ l : List α, (l.filter p).length + (l.filter fun x => !p x).length = l.length
  | [] => rfl
  | a :: l => by
    have := filter_len p l
    cases e : p a <;> simp [List.filter_cons, e] <;> omega
theorem freeOf_nd (ns : List Str) : (freeOf ns).Nodup := nodup_map_zed (letters_nd.sublist List.filter_sublist)
theorem freeOf_in {ns : List Str} {x : Str} (h : x ∈ freeOf ns) : isName x = true ∧ x ∉ ns := by
  obtain ⟨c, hc, rfl⟩ := List.mem_map.mp h
  obtain ⟨h1, h2⟩ := List.mem_filter.mp hc
  exact ⟨zed_ok c h1, by simpa using h2⟩
theorem freeOf_le (ns : List Str) : (freeOf ns).length ≤ 26 := by
  unfold freeOf
  rw [List.length_map]
  have := List.length_filter_le (fun c => !decide (zed c ∈ ns)) letters.cps.toList
  rw [show letters.cps.toList.length = 26 by decide +kernel] at this
  exact this
theorem freeOf_len (ns : List Str) : 26 ≤ ns.length + (freeOf ns).length := by
  have h := filter_len (fun c => !decide (zed c ∈ ns)) letters.cps.toList
  rw [show letters.cps.toList.length = 26 by decide +kernel] at h
  have h2 : ((letters.cps.toList.filter fun c => !(!decide (zed c ∈ ns))).map zed).length ≤ ns.length :=
    len_le_of_sub (nodup_map_zed (letters_nd.sublist List.filter_sublist)) fun x hx => by
      obtain ⟨c, hc, rfl⟩ := List.mem_map.mp hx
      have := (List.mem_filter.mp hc).2
      simpa using this
  unfold freeOf
  rw [List.length_map] at h2 ⊢
  omega
/-- the list of the different ties between two people -/
def keptOf (k : List (Str × Str)) (ts : List (Str × Str)) : List (Str × Str) := ts.foldl (fun k t => if t.1 ≠ t.2 ∧ t ∉ k then k ++ [t] else k) k
theorem fold_kept : ∀ (ts : List (Str × Str)) (W : WebD), (ts.foldl (fun W t => W.tie t.1 t.2) W).ties = keptOf W.ties ts
  | [], _ => rfl
  | t :: r, W => by
    rw [List.foldl_cons, fold_kept r, keptOf, keptOf, List.foldl_cons, tie_ties]
    obtain ⟨a, b⟩ := t
    by_cases h : a = b ∨ (a, b) ∈ W.ties
    · rw [if_pos h, if_neg (fun z : a ≠ b ∧ (a, b) ∉ W.ties => h.elim z.1 z.2)]
    · rw [if_neg h, if_pos ⟨fun z => h (.inl z), fun z => h (.inr z)⟩]
theorem webT_ties (ns : List Str) (ts : List (Str × Str)) : (webT ns ts).ties = keptOf [] ts := by
  unfold webT; rw [fold_kept, webOf_ties]
theorem kept_sub : ∀ (ts k : List (Str × Str)), ∀ t ∈ keptOf k ts, t ∈ k ∨ t ∈ ts
  | [], k, t, h => .inl h
  | u :: r, k, t, h => by
    rcases kept_sub r _ t h with z | z
    · dsimp only at z
      by_cases c : u.1 ≠ u.2 ∧ u ∉ k
      · rw [if_pos c] at z
        rcases List.mem_append.mp z with z | z
        · exact .inl z
        · exact .inr (by rw [List.mem_singleton] at z; rw [z]; exact List.mem_cons_self)
      · rw [if_neg c] at z; exact .inl z
    · exact .inr (List.mem_cons_of_mem _ z)
theorem kept_mono : ∀ (ts k : List (Str × Str)), ∀ t ∈ k, t ∈ keptOf k ts
  | [], k, t, h => h
  | u :: r, k, t, h => kept_mono r _ t (by
    dsimp only
    by_cases c : u.1 ≠ u.2 ∧ u ∉ k
    · rw [if_pos c]; exact List.mem_append_left _ h
    · rw [if_neg c]; exact h)
theorem kept_has : ∀ (ts k : List (Str × Str)), ∀ t ∈ ts, t.1 ≠ t.2 → t ∈ keptOf k ts
  | u :: r, k, t, h, hne => by
    rcases List.mem_cons.mp h with rfl | h
    · refine kept_mono r _ t ?_
      dsimp only
      by_cases c : t.1 ≠ t.2 ∧ t ∉ k
      · rw [if_pos c]; exact List.mem_append_right _ (by simp)
      · rw [if_neg c]
        exact Classical.byContradiction fun z => c ⟨hne, z⟩
    · exact kept_has r _ t h hne
theorem path_kept (ts : List (Str × Str)) (a x : Str) : Path (keptOf [] ts) a x ↔ Path ts a x := by
  refine ⟨fun h => h.mono fun t ht => (kept_sub ts [] t ht).elim (fun z => nomatch z) id, fun h => ?_⟩
  induction h with
  | refl => exact .refl _
  | @step b c h1 h2 ih =>
    by_cases z : b = c
    · rw [← z]; exact ih
    · exact Path.step ih (kept_has ts [] _ h2 z)
theorem kept_snoc {ts : List (Str × Str)} {i : Nat} (h : i < ts.length) : keptOf [] (ts.take (i + 1)) = if (ts[i]).1 ≠ (ts[i]).2 ∧ ts[i] ∉ keptOf [] (ts.take i) then keptOf [] (ts.take i) ++ [ts[i]] else keptOf [] (ts.take i) := by
  rw [take_snoc (List.getElem?_eq_getElem h)]
  unfold keptOf
  rw [List.foldl_append]; rfl
theorem kept_len : ∀ (ts k : List (Str × Str)), (keptOf k ts).length ≤ k.length + ts.length
  | [], k => Nat.le_refl _
  | u :: r, k => by
    have := kept_len r (if u.1 ≠ u.2 ∧ u ∉ k then k ++ [u] else k)
    show (keptOf (if u.1 ≠ u.2 ∧ u ∉ k then k ++ [u] else k) r).length ≤ _
    split at this
    · rename_i c; rw [if_pos c]; rw [List.length_append] at this; simp at this ⊢; omega
    · rename_i c; rw [if_neg c]; simp at this ⊢; omega
end TL
/-! the name that is drawn, as a value -/
namespace TL
open PySem PySem.Spec PyProof.Rows L2
variable {P : Program} {w : World} {K : PySem.W.Frag} {mg : Str → Option Value} {base : Heap} {k : Nat}
theorem getD_get {xs : List Nat} {i : Nat} {d : Nat} (h : i < xs.length) : xs.getD i d = xs[i] := by simp [List.getD, h]
def nameSt (r : Int) : Nat → Int × Str
  | 0 => (r, "")
  | j + 1 => ((nameSt r j).1 / 26, (nameSt r j).2 ++ ⟨#[letters.cps.toList.getD ((nameSt r j).1 % 26).toNat 0]⟩)
def nameOf (n : Int) : Str := (nameSt (n / 8 * 104729) (1 + n % 8).toNat).2
theorem nameSt_ok (r : Int) : ∀ j, okName j (nameSt r j).2
  | 0 => ⟨rfl, rfl⟩
  | j + 1 => okName_snoc (nameSt_ok r j) (by
      have hr : 0 ≤ (nameSt r j).1 % 26 ∧ (nameSt r j).1 % 26 < 26 := ⟨Int.emod_nonneg _ (by decide), Int.emod_lt_of_pos _ (by decide)⟩
      have hlt : ((nameSt r j).1 % 26).toNat < letters.cps.toList.length := letters_at (by omega)
      rw [getD_get hlt]; exact List.getElem_mem hlt)
theorem nameOf_ok (n : Int) : isName (nameOf n) = true ∧ (nameOf n).length ≤ 8 := by
  have h := nameSt_ok (n / 8 * 104729) (1 + n % 8).toNat
  refine ⟨isName_of h (by omega) (by omega), ?_⟩
  show (nameSt (n / 8 * 104729) (1 + n % 8).toNat).2.length ≤ 8
  rw [h.1]; omega
def tpNameF : TSp := fun ds A Q E => ∃ n : Int, ds = [.int n] ∧ 0 ≤ n ∧ Q (.str (nameOf n)) A
theorem body_nameF (G : Free mg) : BodyT P w K mg base N_law_name (defScope s_law_name) 1 (defBody s_law_name) tpNameF := by
  intro X bd ds A Q ET hx ⟨n, e, hn, q⟩
  obtain ⟨rfl, rfl, rfl, rfl, rfl, B, room, _, _⟩ := bd
  subst e
  refine wpb_cons (B.set (i := 1) rfl (.inl rfl) (Ev.wp ev_str ?_))
  refine wpb_cons (B.set (i := 2) rfl (.inl rfl) (Ev.wp (ev_bin (ev_bin (B.nm (i := 0) rfl rfl (.inl rfl)) ev_int (opv_fdiv ⟨by decide, by decide⟩)) ev_int (opv_mul (.inr ⟨by decide, by decide⟩))) ?_))
  refine wpb_cons (B.set (i := 3) rfl (.inl rfl) (Ev.wp ev_str ?_))
  refine wpb_cons (B.for_ (wpi_range1 B.toBC rfl G.range (Ev.wp (ev_bin ev_int (ev_bin (B.eT rfl G.int bt_int (eva_cons (B.nm (i := 0) rfl rfl (.inl rfl)) eva_nil) cav_int) ev_int (opv_mod (by decide))) opv_add) ⟨_, rfl, by omega, by omega, fun j δ' A' => ∃ (v4 : Option TL.D), A' = A ∧
    δ' = [some (.int n), some (.str letters), some (.int (nameSt (n / 8 * 104729) j).1), some (.str (nameSt (n / 8 * 104729) j).2), v4], ⟨none, rfl, rfl⟩, fun _ _ _ _ _ => trivial, fun j δ' A' hj ⟨v4, eA, eδ⟩ => ?_, fun δ' A' ⟨v4, eA, eδ⟩ => ?_⟩)))
  · subst eA eδ
    refine WPG.to (B.tn (d := .int j) (i := 4) rfl (.inl rfl) ?_) (by simp)
    have h1 := nameSt_ok (n / 8 * 104729) j
    have en : nameSt (n / 8 * 104729) (j + 1) = ((nameSt (n / 8 * 104729) j).1 / 26, (nameSt (n / 8 * 104729) j).2 ++ ⟨#[letters.cps.toList.getD ((nameSt (n / 8 * 104729) j).1 % 26).toNat 0]⟩) := rfl
    generalize nameSt (n / 8 * 104729) j = rz at h1 en
    obtain ⟨r, z⟩ := rz
    dsimp only at h1 en ⊢
    have hr : 0 ≤ r % 26 ∧ r % 26 < 26 := ⟨Int.emod_nonneg _ (by decide), Int.emod_lt_of_pos _ (by decide)⟩
    have hlt : (r % 26).toNat < letters.cps.toList.length := letters_at (by omega)
    rw [getD_get hlt] at en
    refine wpb_cons (B.set (i := 3) rfl (.inl rfl) (Ev.wp (ev_bin (B.nm (i := 3) rfl rfl (.inl rfl)) (ev_ix (B.nm (i := 1) rfl rfl (.inl rfl)) (ev_bin (B.eT rfl G.int bt_int (eva_cons (B.nm (i := 2) rfl rfl (.inl rfl)) eva_nil) cav_int) ev_int (opv_mod (by decide))) (ixv_str (by rw [letters_len, sizeLine_eq]; decide) (atI_pos hr.1 hlt))) (opv_adds (by rw [h1.1, sizeLine_eq]; show j + 1 ≤ _; omega))) ?_))
    refine wpb_cons (B.set (i := 2) rfl (.inl rfl) (Ev.wp (ev_bin (B.nm (i := 2) rfl rfl (.inl rfl)) ev_int (opv_fdiv ⟨by decide, by decide⟩)) ?_))
    exact wpb_nil ⟨_, Vw.refl _, some (.int j), rfl, by rw [en]; rfl⟩
  · subst eA eδ
    refine wpb_cons (wps_ret (Ev.wp (B.nm (i := 3) rfl rfl (.inl rfl)) (RV.mk q)))
theorem FnT.weak {f : Addr} {tp tp' : TSp} (F : FnT P w K mg base k f tp) (h : ∀ ds A Q E, tp' ds A Q E → tp ds A Q E) : FnT P w K mg base k f tp' :=
  FnR.imp F fun vs H Q E ⟨ds, A, QT, ET, a, b, c, d⟩ => ⟨ds, A, QT, ET, a, b, h _ _ _ _ c, d⟩
end TL
/-! keywords: o.m(.., k = v), a def with *ties and one keyword-only parameter -/
namespace TL
open PySem PySem.Spec PyProof.Rows
open L2 hiding XE Takes CX MkP PMk ps_raise mk_of ps_try_as ps_try_many pmk_own passAt takes_of passes_call XE.new XE.of_call XE.leave Takes.imp Sky.land
open L2N hiding St
/-- the promise of a function that is called with keywords ks -/
def FnTK (P : Program) (w : World) (K : PySem.W.Frag) (mg : Str → Option Value) (base : Heap) (k : Nat) (f : Addr) (ks : List Str) (tp : TSp) : Prop :=
  ∀ (A : Around) (outer : List Env) (s : Shared) (H : Hp) (us ws : List Value) (vs zs : List V) (Q : VK) (E : XK), Room k A → Env0 P w K mg base A outer s H → Vals vs us → Vals zs ws → ws.length = ks.length → liftSp K tp (vs ++ zs) H Q E →
    codeAny (model P w) A (.call (.ref f) ⟨us, ks.zip ws⟩) (CR (L2N.CX P w) outer P w H s Q E) s
section
variable {X : Cx} {N : List Str} {sc : Scope} {e o : Expr} {es : List Expr} {δ : Ds} {A : AH} {Q : TQ} {pos apos p_ kpos : Pos} {k : Nat} {f C : Addr} {tp : TSp} {ET : TXQ} {pins : List (Addr × Obj)} {σ : St} {H : Hp} {s : Shared} {us ws : List Value} {vs zs : List V} {ds : List TL.D} {ks : List Str}
theorem run_TK (F : FnTK X.prog X.w X.K X.mg X.base k f ks tp) (hr : Room k X.A) (hx : PassD X δ ET) (sl : Sl X.K H σ δ) (I : Inv X pins σ H s) (rv : Vals vs us) (rz : Vals zs ws) (hl : ws.length = ks.length) (rp : Rps X.K H (vs ++ zs) ds) (hR : HR X.K A H) (h : tp ds A Q ET) : wpAny (model X.prog X.w) X.A (call (.ref f) us (ks.zip ws)) (EP X pins σ (LQ X.K H Q)) X.xe s := by
  refine wpAny_call (codeAny_mono (F X.A X.stack s H us ws vs zs (LQ X.K H Q) (EXT X.K H ET) hr I.env0 rv rz hl ⟨ds, A, Q, ET, rp, hR, h, fun _ _ q => q, fun _ _ _ q => q⟩) fun r s' hq => ?_)
  cases r with
  | error e => exact hx pins σ H s e s' I sl hq
  | ok fl =>
    cases fl with
    | ret u => exact I.after hq
    | next => exact hq.elim
    | brk => exact hq.elim
    | cont => exact hq.elim
/-- o.m(e, .., nm = v) -/
theorem wpe_methK1 {m nm : Str} {v : Expr} {pl : Sem Bool} (cl : Cls X.K C) (hm : Meth X.K C m f) (F : FnTK X.prog X.w X.K X.mg X.base k f [nm] tp) (hr : Room k X.A) (hx : PassD X δ ET)
    (h : WPE X o δ A fun x A1 => ∃ p, x = .ref p ∧ InsT X.K A1 p C m ∧ WPA X (e :: es) δ A1 fun ds A2 => WPE X v δ A2 fun z A3 => tp (.ref p :: (ds ++ [z])) A3 Q ET)
    (hst : starEach (e :: es) X.env = (false, eval e X.env) :: starEach es X.env := by rfl) (hpl : ((backTo pos (starEach (e :: es) X.env)).any (·.1) || (backToKw pos (keywordEach [⟨some nm, v, kpos⟩] X.env)).any (·.1.isNone)) = false := by rfl)
    (ht : eval (.Call (.Attribute o m apos) (e :: es) [⟨some nm, v, kpos⟩] pos) X.env = (do
      let ov ← eval o X.env
      standAt apos.atName
      let (f, first) ← holding [ov] (getMethod ov m pl)
      callWith pos f first (backTo pos (starEach (e :: es) X.env)) (backToKw pos (keywordEach [⟨some nm, v, kpos⟩] X.env))) := by rfl) : WPE X (.Call (.Attribute o m apos) (e :: es) [⟨some nm, v, kpos⟩] pos) δ A Q := fun σ H sl r pins s I => by
  refine PySem.W.methodCall_KW (pl := pl) (thn (h σ H sl r pins s I) fun u s1 ⟨x, H1, I1, rx, d, A1, k1, rp, hr1, p, e1, it, q⟩ => ?_) ht
  subst e1
  cases rp
  obtain rfl : u = Value.ref p := rx
  obtain ⟨dx, gs, ea, l⟩ := it H1 hr1
  refine getmeth_ok I1 ea cl hm l ?_
  refine PySem.W.callWith_KW (first := [.ref p]) (h₀ := X.base) I.ok.mod.kin hm.kp rfl (thn (q σ H1 (sl.keep k1) hr1 pos pins s1 I1) fun us s2 ⟨vs, H2, I2, rv, ds, A2, k2, rps, hr2, q2⟩ => ?_) hpl hst
  refine thn ((pk_cons (pe_run (e := v)) pk_nil).run pos pins s2 σ H2 (fun zs H3 => ∃ y, zs = [y] ∧ LQ X.K H2 (fun z A3 => tp (.ref p :: (ds ++ [z])) A3 Q ET) y H3) I2 ?_) fun ws s3 ⟨zs, H3, I3, rz, y, ez, d, A3, k3, ry, hr3, q3⟩ => ⟨I3.kIn, ?_⟩
  · exact runE.mono (q2 σ H2 ((sl.keep k1).keep k2) hr2) fun y H3 z => ⟨y, rfl, z⟩
  · subst ez
    have l1 : ws.length = 1 := by rw [← rz.length]; rfl
    have rv2 : Vals (V.ref p :: vs) (Value.ref p :: us) := .cons rfl rv
    exact thn (run_TK (us := .ref p :: us) F hr hx (((sl.keep k1).keep k2).keep k3) I3 rv2 rz l1 (.cons .ref (Paired.app (Rps.keep rps k3) (.cons ry .nil))) hr3 q3) fun u s' => EP.from ((k1.trans k2).trans k3)
/-- o.m(nm = v) -/
theorem wpe_methK0 {m nm : Str} {v : Expr} {pl : Sem Bool} (cl : Cls X.K C) (hm : Meth X.K C m f) (F : FnTK X.prog X.w X.K X.mg X.base k f [nm] tp) (hr : Room k X.A) (hx : PassD X δ ET)
    (h : WPE X o δ A fun x A1 => ∃ p, x = .ref p ∧ InsT X.K A1 p C m ∧ WPE X v δ A1 fun z A3 => tp [.ref p, z] A3 Q ET)
    (hpl : ((backTo pos (starEach [] X.env)).any (·.1) || (backToKw pos (keywordEach [⟨some nm, v, kpos⟩] X.env)).any (·.1.isNone)) = false := by rfl)
    (ht : eval (.Call (.Attribute o m apos) [] [⟨some nm, v, kpos⟩] pos) X.env = (do
      let ov ← eval o X.env
      standAt apos.atName
      let (f, first) ← holding [ov] (getMethod ov m pl)
      callWith pos f first (backTo pos (starEach [] X.env)) (backToKw pos (keywordEach [⟨some nm, v, kpos⟩] X.env))) := by rfl) : WPE X (.Call (.Attribute o m apos) [] [⟨some nm, v, kpos⟩] pos) δ A Q := fun σ H sl r pins s I => by
  refine PySem.W.methodCall_KW (pl := pl) (thn (h σ H sl r pins s I) fun u s1 ⟨x, H1, I1, rx, d, A1, k1, rp, hr1, p, e1, it, q⟩ => ?_) ht
  subst e1
  cases rp
  obtain rfl : u = Value.ref p := rx
  obtain ⟨dx, gs, ea, l⟩ := it H1 hr1
  refine getmeth_ok I1 ea cl hm l ?_
  refine PySem.W.callWith_KW0 (first := [.ref p]) (h₀ := X.base) I.ok.mod.kin hm.kp rfl ?_ hpl
  refine thn ((pk_cons (pe_run (e := v)) pk_nil).run pos pins s1 σ H1 (fun zs H3 => ∃ y, zs = [y] ∧ LQ X.K H1 (fun z A3 => tp [.ref p, z] A3 Q ET) y H3) I1 ?_) fun ws s3 ⟨zs, H3, I3, rz, y, ez, d, A3, k3, ry, hr3, q3⟩ => ⟨I3.kIn, ?_⟩
  · exact runE.mono (q σ H1 (sl.keep k1) hr1) fun y H3 z => ⟨y, rfl, z⟩
  · subst ez
    have l1 : ws.length = 1 := by rw [← rz.length]; rfl
    have rv2 : Vals [V.ref p] [Value.ref p] := .cons rfl .nil
    exact thn (run_TK (us := [.ref p]) F hr hx ((sl.keep k1).keep k3) I3 rv2 rz l1 (.cons .ref (.cons ry .nil)) hr3 q3) fun u s' => EP.from (k1.trans k3)
/-- C(*e) -/
theorem BC.makeS {x : Str} (B : BC X N sc) (M : Mk X.K C f) (F : FnT X.prog X.w X.K X.mg X.base k f tp) (hr : Room (k + 1) X.A) (hg : sc.names.lookup x = some .globalImplicit) (hm : X.mg x = some (.ref C)) (hx : PassD X δ ET)
    (h : WPE X e δ A fun x A1 => ∃ xs, (x = .tup xs ∨ ∃ l, x = .ref l ∧ A1 l = some (.prim (.lst xs))) ∧ ∀ p, A1 p = none → tp (.ref p :: xs) (updA A1 p (.prim (.ins C []))) (fun d A2 => d = .non ∧ Q (.ref p) A2) ET) (hdb : (x == ("__debug__" : Str)) = false := by decide)
    (he : starEach [.Starred e kpos] X.env = [(true, eval e X.env)] := by rfl) : WPE X (.Call (.Name x p_) [.Starred e kpos] [] pos) δ A Q := fun σ H sl r pins s I => by
  refine wpAny_Call_Name_kw (ld_glob I (B.gl hg) hm ?_ hdb)
  refine PySem.W.callWith_S (h₀ := X.base) I.ok.mod.kin M.kp (thn (h σ H sl r pins s I) fun u s1 ⟨v, H1, I1, rx, d, A1, k1, rp, hr1, xs, hd, q⟩ => ?_) he
  have st : ∃ a vs, v = .ref a ∧ (SqT X.K H1 a vs ∨ SqL X.K H1 a vs) ∧ Rps X.K H1 vs xs := by
    rcases hd with e | ⟨l, e, hl⟩
    · subst e
      obtain ⟨a, vs, e1, e2, e3⟩ := rp.tup_inv
      exact ⟨a, vs, e1, .inl e2, e3⟩
    · subst e
      cases rp
      obtain ⟨vs, e1, e2⟩ := hr1.at_ hl
      exact ⟨l, vs, rfl, .inr (.inl (.inl e1)), e2⟩
  obtain ⟨a, vs, ev, hs, rps⟩ := st
  subst ev
  obtain rfl : u = Value.ref a := rx
  refine StX.star_any I1 hs fun us s2 I2 rv => ⟨I2.kIn, ?_⟩
  exact thn (run_makeT M F hr hx (sl.keep k1) I2 rv rps hr1 q) fun u s' => EP.from k1
end
/-! ### a def with *pv and one keyword-only parameter -/
section
variable {P : Program} {w : World} {K : PySem.W.Frag} {mg : Str → Option Value} {base : Heap} {k : Nat} {f : Addr} {name qual : Str} {params : Arguments} {body : List Stmt} {scope : Scope} {dV kV doc pm cdv ct oc : Value} {an od : Option Addr} {osl : Array (Option Value)} {N ps : List Str} {sp : Sp} {fd : FuncData} {tp : TSp}
theorem run_starG {pv : Str} {A : Around} {outer : List Env} {s : Shared} {H : Hp} {args : Args} {Q : VK} {E : XK} {u1 u2 : List Value} {ws rest : List V} (lk : K.lookup f = some ⟨oc, od, .func (PySem.W.fnOf name qual params body scope dV kV doc pm an cdv ct), osl⟩) (hcd : PySem.W.codeIn K cdv qual = true)
    (S : FnScope N (ps ++ [pv]) scope) (hr : Room (k + 1) A) (e0 : Env0 P w K mg base A outer s H)
    (hb : ∀ (A' : Around) (Q' : List (Str × Value) → Shared → Prop) (E' : Value → Shared → Prop), wpAny (model P w) A' (newTuple u2) (fun t s' => Q' (ps.zip u1 ++ [(pv, t)]) s') E' s → wpAny (model P w) A' (bindArgs (PySem.W.fnOf name qual params body scope dV kV doc pm an cdv ct) args) Q' E' s)
    (r1 : Vals ws u1) (r2 : Vals rest u2) (hl : ws.length = ps.length) (hz : rest.length ≤ sizeLine) (hq : ∀ p, H p = Option.none → sp (ws ++ [V.ref p]) (upd H p (.tup rest)) Q E)
    (hbody : ∀ (B : Around) (out : List Env) (s1 : Shared) (H1 : Hp) (xs : List V) (Q1 : VK) (E1 : XK), Room k (B.deeper (envOfC qual scope s1.heap.objs.size f cdv)) → sp xs H1 Q1 E1 →
      ∃ t, PSs (cxOf (L2N.CX P w) P w K mg base N qual scope f cdv B out s1 H1 E1) body t ∧ t { nx := fun _ H' => Q1 .non H', rt := Q1 } (L2.start N xs) H1) :
    codeAny (model P w) A (.call (.ref f) args) (CR (L2N.CX P w) outer P w H s Q E) s := by
  have nn : H s.heap.objs.size = Option.none := e0.hok.fresh (Nat.le_refl _)
  have n1 : u1.length = ps.length := by rw [← r1.length]; exact hl
  have n2 : u2.length ≤ sizeLine := by rw [← r2.length]; exact hz
  refine StX.run_bnd lk hcd S hr e0 (G := fun xs H2 => ∃ p, H p = Option.none ∧ xs = ws ++ [V.ref p] ∧ H2 = upd H p (.tup rest)) (fun A' Ex Q' h => hb A' Q' Ex (wpAny_newTuple ?_ n2)) fun s2 H2 xs ⟨p, hp, ex, eH⟩ hr' => by
    subst ex eH
    exact hbody A outer s2 _ _ Q E hr' (hq p hp)
  have ob : ObjOk P w (upd H s.heap.objs.size (.tup rest)) (s.heap.push ({ cls := .type "tuple", data := .seq u2.toArray } : Obj)) s.heap.objs.size (.tup rest) := ⟨hz, u2, r2, ⟨_, Heap.get?_push_size _ rfl, rfl, _, rfl⟩⟩
  have ul := StX.un_laid (fs := frs outer) (s := s) (o := ({ cls := .type "tuple", data := .seq u2.toArray } : Obj)) (u := .tup rest) nn
  have z := h _ _ (ws ++ [V.ref s.heap.objs.size]) (u1 ++ [Value.ref s.heap.objs.size]) (StX.env0_laid e0 ob) ul rfl (fun e s' => cxUpN outer s H _ _ E e s' ul (fun b o q => Heap.get?_push_of_some _ q) rfl) (r1.append (.cons rfl .nil)) (by rw [List.length_append, List.length_append, hl]; rfl) ⟨_, nn, rfl, rfl⟩
  rw [List.zip_append n1.symm] at z
  exact z
/-- f(x, *rest, nk = z) -/
theorem fn_TSK {a1 nk pv : Str} {kws : List (Str × V)} (Fd : FunD K name qual params body scope [] kws f fd) (S : FnScope N ([a1, nk] ++ [pv]) scope)
    (hb : ∀ (kV doc pm : Value) (an : Option Addr) (cdv ct a v : Value) (rest : List Value), bindArgs (PySem.W.fnOf name qual params body scope .none kV doc pm an cdv ct) ⟨a :: rest, [(nk, v)]⟩ = (newTuple rest >>= fun t => pure [(a1, a), (nk, v), (pv, t)]))
    (hbody : BodyT P w K mg base N scope k body tp) : FnTK P w K mg base (k + 1) f [nk] (fun ds A Q E => ∃ x rest z, ds = x :: (rest ++ [z]) ∧ rest.length ≤ sizeLine ∧ tp [x, z, .tup rest] A Q E) := by
  obtain ⟨oc, od, dV, kV, doc, pm, an, cdv, ct, osl, rfl, lk, hcd, hD, hK⟩ := Fd.ex
  rcases hD with ⟨_, rfl⟩ | ⟨e, _⟩
  rotate_left
  · exact absurd rfl e
  intro A outer s H us ws vs zs Q E hr e0 rv rz hl hsp
  obtain ⟨ds, A', QT, ET, rp, hR, ⟨x, rest, z, rfl, hz, ht⟩, hQ, hE⟩ := hsp
  obtain ⟨v1, v2, e1, p1, p2⟩ := Paired.split_ (ys1 := x :: rest) (ys2 := [z]) rp
  have l2 : v2.length = 1 := Paired.length p2
  have lz : zs.length = 1 := by rw [rz.length]; exact hl
  obtain ⟨rfl, rfl⟩ := List.append_inj' e1 (by rw [lz, l2])
  match vs, p1, us, rv, zs, p2, ws, rz with
  | v0 :: vr, .cons q0 qr, u0 :: ur, .cons a0 ar, [z0], .cons qz _, [w0], .cons az _ =>
    refine run_starG (ps := [a1, nk]) (u1 := [u0, w0]) (u2 := ur) (ws := [v0, z0]) (rest := vr) (sp := liftSp K tp) lk hcd S hr e0 (fun A2 Q2 E2 h => ?_) (.cons a0 (.cons az .nil)) ar rfl (by rw [Paired.length qr]; exact hz) (fun p hp => ?_) fun B out s1 H1 xs Q1 E1 hr1 hs1 => body_of S hbody hr1 hs1
    · show wpAny (model P w) A2 (bindArgs _ ⟨u0 :: ur, [(nk, w0)]⟩) Q2 E2 s
      rw [hb]
      exact wpAny_bind (wpAny_mono h (fun t s' q => wpAny_pure q) fun _ _ q => q)
    · have ex := ex_upd (o := .tup vr) hp
      have kk : Kp K H (upd H p (.tup vr)) := kp_ex ex
      exact ⟨[x, z, .tup rest], A', QT, ET, .cons (q0.keep kk) (.cons (qz.keep kk) (.cons (Rp.tups (.of upd_same) (Rps.keep qr kk)) .nil)), hR.stay kk ex, ht, fun v H' q => hQ v H' (LQ.from kk q), fun cls o H' ⟨fs, A2, k', xf, q⟩ => hE cls o H' ⟨fs, A2, kk.trans k', xf, q⟩⟩
/-- an empty tuple of the module -/
def EmT (K : PySem.W.Frag) (T : Addr) : Prop := ∃ (o : Obj) (its : Array Value) (n : Nat), K.lookup T = some o ∧ o.cls = .type "tuple" ∧ o.data = .seq its n ∧ its.toList = []
/-- f(x, *rest), the keyword-only parameter's default an empty tuple -/
theorem fn_TSD {a1 nk pv : Str} {T : Addr} (Fd : FunD K name qual params body scope [] [(nk, V.ref T)] f fd) (S : FnScope N ([a1, nk] ++ [pv]) scope) (hT : EmT K T)
    (hb : ∀ (D : Addr) (doc pm : Value) (an : Option Addr) (cdv ct a v : Value) (rest : List Value), ∃ (β γ : Type) (k1 : Option Value → Sem β) (k2 : β → Sem γ) (k3 : γ → Sem (List (Str × Value))) (b : β), bindArgs (PySem.W.fnOf name qual params body scope .none (.ref D) doc pm an cdv ct) ⟨a :: rest, []⟩ = ((nsGet D nk >>= k1) >>= k2) >>= k3 ∧ k1 (some v) = pure b ∧ (k2 b >>= k3) = (newTuple rest >>= fun t => pure [(a1, a), (nk, v), (pv, t)]))
    (hbody : BodyT P w K mg base N scope k body tp) : FnT P w K mg base (k + 1) f (fun ds A Q E => ∃ x rest, ds = x :: rest ∧ rest.length ≤ sizeLine ∧ tp [x, .tup [], .tup rest] A Q E) := by
  obtain ⟨oc, od, dV, kV, doc, pm, an, cdv, ct, osl, rfl, lk, hcd, hD, hK⟩ := Fd.ex
  rcases hD with ⟨_, rfl⟩ | ⟨e, _⟩
  rotate_left
  · exact absurd rfl e
  rcases hK with e | ⟨D, rfl, hq⟩
  · cases e
  obtain ⟨u, hu, ru⟩ := hq _ List.mem_cons_self
  obtain rfl : u = Value.ref T := ru
  intro A outer s H us vs Q E hr e0 rv hsp
  obtain ⟨ds, A', QT, ET, rp, hR, ⟨x, rest, rfl, hz, ht⟩, hQ, hE⟩ := hsp
  have KX : K.In s.heap := e0.mod.kin.keeps fun b o e => (e0.bs b o e).1
  match vs, rp, us, rv with
  | v0 :: vr, .cons q0 qr, u0 :: ur, .cons a0 ar =>
    refine run_starG (ps := [a1, nk]) (u1 := [u0, Value.ref T]) (u2 := ur) (ws := [v0, V.ref T]) (rest := vr) (sp := liftSp K tp) lk hcd S hr e0 (fun A2 Q2 E2 h => ?_) (.cons a0 (.cons rfl .nil)) ar rfl (by rw [Paired.length qr]; exact hz) (fun p hp => ?_) fun B out s1 H1 xs Q1 E1 hr1 hs1 => body_of S hbody hr1 hs1
    · obtain ⟨β, γ, k1, k2, k3, b, e1, e2, e3⟩ := hb D doc pm an cdv ct u0 (Value.ref T) ur
      rw [e1, bind_assoc]
      have l1 : PySem.W.Looks (model P w) s.heap (nsGet D nk >>= k1) b := (PySem.W.looks_nsIn KX hu).andThen (PySem.W.Looks.of_pure e2)
      refine wpAny_bind (l1 A2 _ _ s (fun _ _ e => e) ?_)
      rw [e3]
      exact wpAny_bind (wpAny_mono h (fun t s' q => wpAny_pure q) fun _ _ q => q)
    · have ex := ex_upd (o := .tup vr) hp
      have kk : Kp K H (upd H p (.tup vr)) := kp_ex ex
      obtain ⟨o, its, n, h1, h2, h3, h4⟩ := hT
      have st : SqT K (upd H p (.tup vr)) T [] := .inr ⟨o, its, n, h1, h2, h3, by rw [← Array.length_toList, h4]; exact Nat.zero_le _, by rw [h4]; exact .nil⟩
      exact ⟨[x, .tup [], .tup rest], A', QT, ET, .cons (q0.keep kk) (.cons (Rp.tups st .nil) (.cons (Rp.tups (.of upd_same) (Rps.keep qr kk)) .nil)), hR.stay kk ex, ht, fun v H' q => hQ v H' (LQ.from kk q), fun cls o H' ⟨fs, A2, k', xf, q⟩ => hE cls o H' ⟨fs, A2, kk.trans k', xf, q⟩⟩
end
end TL
/-! webs that grow: plain -/
namespace TL
open PySem PySem.Spec PyProof.Rows L2
theorem upd_id {A : AH} {q : Addr} {o : AO} (h : A q = some o) : updA A q o = A := by
  funext b
  by_cases z : b = q
  · subst z; rw [updA_same, h]
  · rw [updA_ne z]
/-- an object is shut again beside new ones -/
theorem Vw.shut_new {A A2 : AH} {m : MH} {p q : Addr} {o : AO} {R : MH → Prop} (hp : A p = some (.abs R)) (r : R m) (hmp : ∃ u, m p = some u) (hn : ∀ b u, b ≠ p → m b = some u → A b = none) (hs : ∀ b u, b ≠ q → over A m b = some u → A2 b = some u) (hq : over A m q = none) : Vw (updA A2 q o) (updA A q o) := by
  have mq : m q = none := by
    cases z : m q with
    | none => rfl
    | some u => rw [over_some z] at hq; cases hq
  have qp : q ≠ p := fun z => by
    obtain ⟨u, hu⟩ := hmp
    rw [← z, mq] at hu; cases hu
  refine Vw.reshut (m := m) (p := p) (R := R) (fun b u h => ?_) hmp r fun b u h => ?_
  · have bq : b ≠ q := fun z => by rw [z, mq] at h; cases h
    rw [updA_ne bq]
    exact hs b _ bq (over_some h)
  · by_cases z : b = q
    · subst z
      rw [updA_same] at h
      exact .inr ⟨qp, mq, by rw [updA_same]; exact h⟩
    · rw [updA_ne z] at h
      by_cases z2 : b = p
      · subst z2; rw [hp] at h; cases h; exact .inl ⟨rfl, rfl⟩
      · have mb : m b = none := by
          cases z3 : m b with
          | none => rfl
          | some v => rw [hn b v z2 z3] at h; cases h
        exact .inr ⟨z2, mb, by rw [updA_ne z]; exact hs b u z (by rw [over_none mb]; exact h)⟩
/-- a web of these people, with these ties -/
structure GW (V : WebD) (ns : List Str) (ts : List (Str × Str)) : Prop where
  good : Good V
  pp : V.people = ns
  tt : V.ties = keptOf [] ts
  nm : ∀ n ∈ ns, isName n = true
theorem kept_app (k ts us : List (Str × Str)) : keptOf k (ts ++ us) = keptOf (keptOf k ts) us := by unfold keptOf; rw [List.foldl_append]
theorem GW.tie {V : WebD} {ns : List Str} {ts : List (Str × Str)} {a b : Str} (h : GW V ns ts) (ha : a ∈ ns) (hb : b ∈ ns) : GW (V.tie a b) ns (ts ++ [(a, b)]) := by
  refine ⟨h.good.tie (by rw [h.pp]; exact ha) (by rw [h.pp]; exact hb), tie_people.trans h.pp, ?_, h.nm⟩
  rw [tie_ties, kept_app, ← h.tt]
  show _ = if a ≠ b ∧ (a, b) ∉ V.ties then V.ties ++ [(a, b)] else V.ties
  by_cases c : a = b ∨ (a, b) ∈ V.ties
  · rw [if_pos c, if_neg (fun z : a ≠ b ∧ (a, b) ∉ V.ties => c.elim z.1 z.2)]
  · rw [if_neg c, if_pos ⟨fun z => c (.inl z), fun z => c (.inr z)⟩]
theorem GW.add {V : WebD} {ns : List Str} {ts : List (Str × Str)} {n : Str} (h : GW V ns ts) (hn : isName n = true) (hnew : n ∉ ns) (hl : ns.length < 24) : GW (V.add n) (ns ++ [n]) ts :=
  ⟨h.good.add (by rw [h.pp]; exact hnew) (by rw [h.pp]; exact hl), by show V.people ++ [n] = _; rw [h.pp], h.tt, fun x hx => by
    rcases List.mem_append.mp hx with hx | hx
    · exact h.nm x hx
    · rw [List.mem_singleton] at hx; rw [hx]; exact hn⟩
theorem GW.len {V : WebD} {ns : List Str} {ts : List (Str × Str)} (h : GW V ns ts) : ns.length ≤ 24 := by rw [← h.pp]; exact h.good.len
theorem GW.nd {V : WebD} {ns : List Str} {ts : List (Str × Str)} (h : GW V ns ts) : ns.Nodup := by rw [← h.pp]; exact h.good.nd
theorem GW.to {V : WebD} {ns : List Str} {ts : List (Str × Str)} (h : GW V ns ts) : goodTo ns := ⟨h.nd, h.len, h.nm⟩
theorem GW.path {V : WebD} {ns : List Str} {ts : List (Str × Str)} (h : GW V ns ts) {a : Str} (ha : a ∈ ns) (x : Str) : x ∈ V.rc a ↔ Path ts a x := by
  rw [h.good.path a (by rw [h.pp]; exact ha), h.tt]; exact path_kept ts a x
theorem GW.webOf {ns : List Str} (h : goodTo ns) : GW (webOf ns) ns [] := ⟨good_webOf ns h.1 h.2.1, webOf_people ns, webOf_ties ns, h.2.2⟩
theorem GW.webT {ns : List Str} {ts : List (Str × Str)} (h : goodTo ns) (ht : ∀ t ∈ ts, t.1 ∈ ns ∧ t.2 ∈ ns) : GW (webT ns ts) ns ts :=
  ⟨good_fold _ _ (good_webOf ns h.1 h.2.1) fun t ht' => by rw [webOf_people]; exact ht t ht', webT_people ns ts, webT_ties ns ts, h.2.2⟩
theorem kept_ne : ∀ (ts k : List (Str × Str)), (∀ t ∈ k, t.1 ≠ t.2) → ∀ t ∈ keptOf k ts, t.1 ≠ t.2
  | [], k, h, t, ht => h t ht
  | u :: r, k, h, t, ht => kept_ne r _ (fun t ht => by
    dsimp only at ht
    by_cases c : u.1 ≠ u.2 ∧ u ∉ k
    · rw [if_pos c] at ht
      rcases List.mem_append.mp ht with z | z
      · exact h t z
      · rw [List.mem_singleton] at z; rw [z]; exact c.1
    · rw [if_neg c] at ht; exact h t ht) t ht
theorem kept_all : ∀ (ts k : List (Str × Str)), (k ++ ts).Nodup → (∀ t ∈ ts, t.1 ≠ t.2) → keptOf k ts = k ++ ts
  | [], k, _, _ => by simp [keptOf]
  | u :: r, k, nd, h => by
    have hu : u.1 ≠ u.2 ∧ u ∉ k := ⟨h u List.mem_cons_self, fun z => (List.nodup_append.mp nd).2.2 u z u List.mem_cons_self rfl⟩
    show keptOf (if u.1 ≠ u.2 ∧ u ∉ k then k ++ [u] else k) r = _
    rw [if_pos hu, kept_all r (k ++ [u]) (by rw [List.append_assoc]; exact nd) fun t ht => h t (List.mem_cons_of_mem _ ht), List.append_assoc]; rfl
theorem GW.idem {W : WebD} {ns : List Str} {ts : List (Str × Str)} (h : GW W ns ts) : keptOf [] W.ties = W.ties := by
  rw [kept_all W.ties [] (by simpa using h.good.tnd) (by rw [h.tt]; exact kept_ne ts [] fun _ z => (nomatch z)), List.nil_append]
end TL
/-! webs that grow: grown -/
namespace TL
open PySem PySem.Spec PyProof.Rows L2
variable {P : Program} {w : World} {K : PySem.W.Frag} {mg : Str → Option Value} {base : Heap} {k : Nat}
def tpGrown (K : PySem.W.Frag) : TSp := fun ds A Q E => ∃ p lp W, ∃ (ns0 : List Str) (ts0 : List (Str × Str)) (ns : List Str) (ts : List (Str × Str)), ds = [.ref p, .tup (ns.map .str), .tup (ts.map pr)] ∧ A p = some (.abs (isWeb (cW K) lp p W)) ∧ GW W ns0 ts0 ∧ (∀ n ∈ ns, n.length ≤ sizeLine) ∧
  (goodTo (ns0 ++ ns) → (∀ t ∈ ts, t.1 ∈ ns0 ++ ns ∧ t.2 ∈ ns0 ++ ns) → ∀ V q lq, GW V (ns0 ++ ns) (ts0 ++ ts) → A q = none → A lq = none → Q (.ref q) (updA A q (.abs (isWeb (cW K) lq q V)))) ∧
  (∀ pre n post, ns = pre ++ n :: post → goodTo (ns0 ++ pre) → (isName n = false → E (.ref (He.ga K "NoName")) [("text", .str n)] A) ∧ (isName n = true → n ∈ ns0 ++ pre → E (.ref (He.ga K "AlreadyThere")) [("name", .str n)] A) ∧ (isName n = true → n ∉ ns0 ++ pre → (ns0 ++ pre).length = 24 → E (.ref (He.ga K "TooMany")) [] A)) ∧
  (goodTo (ns0 ++ ns) → ∀ pre t post, ts = pre ++ t :: post → (∀ u ∈ pre, u.1 ∈ ns0 ++ ns ∧ u.2 ∈ ns0 ++ ns) → (t.1 ∉ ns0 ++ ns → E (.ref (He.ga K "NoPerson")) [("name", .str t.1)] A) ∧ (t.1 ∈ ns0 ++ ns → t.2 ∉ ns0 ++ ns → E (.ref (He.ga K "NoPerson")) [("name", .str t.2)] A))
theorem sc_wgrown : FnScope N_Web_grown ([("self" : Str), "people"] ++ [("ties" : Str)]) (defScope s_Web_grown) := ⟨rfl, rfl, rfl, by decide +kernel, rfl, by decide +kernel, by decide +kernel⟩
theorem goodTo.app {a b : List Str} {n : Str} (h : goodTo (a ++ b)) (hn : isName n = true) (hnew : n ∉ a ++ b) (hl : (a ++ b).length < 24) : goodTo (a ++ (b ++ [n])) := by rw [← List.append_assoc]; exact h.snoc hn hnew hl
theorem body_wgrown (G : WebK K mg) (M : WebM K) (Fi : FnT P w K mg base 5 (wm K "__init__") (tpInitS K)) (Fw : FnT P w K mg base 4 (wm K "welcome") (tpWelcome K)) (Fs : FnT P w K mg base 4 (wm K "__setitem__") (tpSet K)) : BodyT P w K mg base N_Web_grown (defScope s_Web_grown) 6 (defBody s_Web_grown) (tpGrown K) := by
  intro X bd ds A Q ET hx ⟨p, lp, W, ns0, ts0, ns, ts, e, hp, gw, hsz, qq, en, et⟩
  obtain ⟨rfl, rfl, rfl, rfl, rfl, B, room, _, _⟩ := bd
  subst e
  have nl : ∀ n, isName n = true → n.length ≤ sizeLine := fun n hn => by have := (isName_len hn).2; rw [sizeLine_eq]; omega
  refine WPB.open_ hp fun m hm hmp hn => ?_
  obtain ⟨lt, lr, ad, h1, h2, h3, h4, h5, h6, h7⟩ := id hm
  refine wpb_cons (B.set (i := 3) rfl (.inl rfl) (B.callT rfl G.flist bt_list (EvA.wp (eva_cons (ev_fld (B.nm (i := 0) rfl rfl (.inl rfl)) (over_some h1) rfl G.cls G.nP) eva_nil) (caw_list (.inl (over_some h2)) fun l1 hl1 => ?_))))
  have o1 := upd_new (u := .prim (.lst (W.people.map .str))) (over_some (A := A) h1) hl1
  have o3 := upd_new (u := .prim (.lst (W.people.map .str))) (over_some (A := A) h3) hl1
  have s1 := Sub.upd (o := .prim (.lst (W.people.map .str))) (Sub.refl (over A m)) hl1
  have ol : updA (over A m) l1 (.prim (.lst (W.people.map .str))) l1 = some (.prim (.lst (W.people.map .str))) := updA_same
  generalize updA (over A m) l1 (.prim (.lst (W.people.map .str))) = A1 at o1 o3 s1 ol ⊢
  have hto := gw.to
  have hpl : W.people.length ≤ sizeLine := by have := gw.good.len; rw [sizeLine_eq]; omega
  refine wpb_cons (B.set (i := 4) rfl (.inl rfl) (B.makeS (ET := NoX) M.make Fi room rfl G.gW pass0 (Ev.wp (B.nm (i := 3) rfl rfl (.inl rfl)) ⟨W.people.map .str, .inr ⟨l1, rfl, ol⟩, fun q hq => ⟨[.ref q], W.people.map .str, rfl, rfl, by rw [List.length_map]; exact hpl, q, W.people, rfl, updA_same, fun n hn => nl n (gw.nm n (by rw [← gw.pp]; exact hn)), fun gd lq hlq => ⟨rfl, ?_⟩, fun pre n post e gp => ?_⟩⟩)))
  rotate_left
  · have hmem : n ∈ W.people := by rw [e]; simp
    have hnd := gw.good.nd
    have hle := gw.good.len
    have l24 := congrArg List.length e
    rw [List.length_append, List.length_cons] at l24
    refine ⟨fun z => ?_, fun _ z => ?_, fun _ _ z => ?_⟩
    · rw [gw.nm n (by rw [← gw.pp]; exact hmem)] at z; cases z
    · rw [e] at hnd
      exact (List.nodup_append.mp hnd).2.2 n z n (by simp) rfl
    · omega
  have hql : lq ≠ q := fun z => by rw [z, updA_same] at hlq; cases hlq
  rw [updA_ne hql] at hlq
  rw [updA_updA]
  have hoq : over A m q = none := s1.none hq
  have hol : over A m lq = none := s1.none hlq
  have hAq : A q = none := over_none_of hoq
  have hAl : A lq = none := over_none_of hol
  have V0 : GW (webOf W.people) ns0 [] := by rw [gw.pp]; exact GW.webOf hto
  have o1 := upd_new (u := .abs (isWeb (cW X.K) lq q (webOf W.people))) o1 hq
  have o3 := upd_new (u := .abs (isWeb (cW X.K) lq q (webOf W.people))) o3 hq
  have s2 : TL.Sub (over A m) (updA A1 q (.abs (isWeb (cW X.K) lq q (webOf W.people)))) := s1.trans (Sub.upd (Sub.refl A1) hq)
  have oq : updA A1 q (.abs (isWeb (cW X.K) lq q (webOf W.people))) q = some (.abs (isWeb (cW X.K) lq q (webOf W.people))) := updA_same
  generalize updA A1 q (.abs (isWeb (cW X.K) lq q (webOf W.people))) = A2 at o1 o3 s2 oq ⊢
  -- its ties
  refine wpb_cons (B.for_ (wpi_list (B.callT rfl G.flist bt_list (EvA.wp (eva_cons (ev_fld (B.nm (i := 0) rfl rfl (.inl rfl)) o1 rfl G.cls G.nT) eva_nil) (caw_list (.inl o3) fun l2 hl2 => ⟨l2, _, rfl, updA_same, fun i δ' A' => ∃ (V : WebD) (v5 v6 : Option TL.D), GW V ns0 (W.ties.take i) ∧ A' = updA (updA A2 l2 (.prim (.lst (W.ties.map pr)))) q (.abs (isWeb (cW X.K) lq q V)) ∧
    δ' = [some (.ref p), some (.tup (ns.map .str)), some (.tup (ts.map pr)), some (.ref l1), some (.ref q), v5, v6, none], ⟨webOf W.people, none, none, V0, (upd_id (upd_new oq hl2)).symm, rfl⟩, fun i δ' A' _ ⟨_, _, _, _, eA, _⟩ => by rw [eA]; exact upd_ne' updA_same (fun z => by rw [z, oq] at hl2; cases hl2), fun i δ' A' hi ⟨V, v5, v6, gV, eA, eδ⟩ => ?_, fun δ' A' ⟨V, v5, v6, gV, eA, eδ⟩ => ?_⟩)))))
  · subst eA eδ
    have hi' : i < W.ties.length := by simpa using hi
    have hin := gw.good.tin _ (List.getElem_mem hi')
    refine WPG.to (d' := .tup [.str (W.ties[i]).1, .str (W.ties[i]).2]) (B.tt (B.tns (i := 5) rfl (.inl rfl) (B.tns (i := 6) rfl (.inl rfl) (wpgs_nil ?_)))) (getD_map hi')
    have g := gV.good
    have ha : (W.ties[i]).1 ∈ ns0 := by rw [← gw.pp]; exact hin.1
    have hb : (W.ties[i]).2 ∈ ns0 := by rw [← gw.pp]; exact hin.2
    have gV2 := gV.tie ha hb
    rw [show W.ties.take i ++ [((W.ties[i]).1, (W.ties[i]).2)] = W.ties.take (i + 1) from (take_snoc (List.getElem?_eq_getElem hi')).symm] at gV2
    generalize (W.ties[i]).1 = a at ha gV2
    generalize (W.ties[i]).2 = b at hb gV2
    refine wpb_cons (wps_putO (ET := NoX) M.set G.seq Fs (room.mono (by omega)) pass0 (Ev.wp ev_bl (Ev.wp (B.nm (i := 4) rfl rfl (.inl rfl)) (Ev.wp (ev_tup (eva_cons (B.nm (i := 5) rfl rfl (.inl rfl)) (eva_cons (B.nm (i := 6) rfl rfl (.inl rfl)) eva_nil)) (show 2 ≤ sizeLine by decide)) ⟨q, rfl, web_insC updA_same, q, lq, V, a, b, true, rfl, updA_same, g.1, fun _ _ _ => ?_, fun h => (h (by rw [gV.pp]; exact ha)).elim, fun _ h => (h (by rw [gV.pp]; exact hb)).elim, fun _ _ h => nomatch h⟩))))
    refine wpb_nil ⟨_, Vw.refl _, _, some (.str a), some (.str b), gV2, ?_, rfl⟩
    rw [updA_updA]
  · subst eA eδ
    rw [List.length_map, List.take_length] at gV
    have gV : GW V ns0 ts0 := ⟨gV.good, gV.pp, gV.tt.trans (gw.idem.trans gw.tt), gV.nm⟩
    refine WPB.vw (Vw.shut_new hp hm hmp hn (fun b u hb h => upd_new (s2 _ _ h) hl2) hoq) ?_
    clear o1 o3 s1 s2 oq ol
    -- the newcomers
    refine wpb_cons (B.for_ (wpi_tup (Ev.wp (B.nm (i := 1) rfl rfl (.inl rfl)) ⟨_, rfl, fun i δ' A' => ∃ (V : WebD) (v7 : Option TL.D), GW V (ns0 ++ ns.take i) ts0 ∧ A' = updA A q (.abs (isWeb (cW X.K) lq q V)) ∧
      δ' = [some (.ref p), some (.tup (ns.map .str)), some (.tup (ts.map pr)), some (.ref l1), some (.ref q), v5, v6, v7], ⟨V, none, by rw [List.take_zero, List.append_nil]; exact gV, rfl, rfl⟩, fun _ _ _ _ _ => trivial, fun i δ' A' hi ⟨V, v7, gV, eA, eδ⟩ => ?_, fun δ' A' ⟨V, v7, gV, eA, eδ⟩ => ?_⟩)))
    · subst eA eδ
      have hi' : i < ns.length := by simpa using hi
      have hmem := List.getElem_mem hi'
      have etk : ns.take (i + 1) = ns.take i ++ [ns[i]] := take_snoc (List.getElem?_eq_getElem hi')
      obtain ⟨he1, he2, he3⟩ := en (ns.take i) ns[i] (ns.drop (i + 1)) (by simp) gV.to
      refine WPG.to (B.tn (i := 7) rfl (.inl rfl) ?_) (getD_map hi')
      have hz := hsz _ hmem
      generalize ns[i] = n at hz etk he1 he2 he3
      refine wpb_cons (wps_expr (wpe_meth (ET := fun cls fs A' => A' = updA A q (.abs (isWeb (cW X.K) lq q V)) ∧ ET cls fs A) G.cls G.mwel Fw (room.mono (by omega)) (TakesD.p (hx.at_.vw fun cls fs A' ⟨eA, h⟩ => ⟨A, by subst eA; exact VwX.sub (Sub.upd (Sub.refl A) hAq), h⟩)) (Ev.wp (B.nm (i := 4) rfl rfl (.inl rfl)) ⟨q, rfl, web_insT updA_same fun _ _ _ => rfl, EvA.wp (eva_cons (B.nm (i := 7) rfl rfl (.inl rfl)) eva_nil) ⟨q, lq, V, n, rfl, updA_same, hz, gV.good.len, fun hnm hnew h24 => ?_, fun h => ⟨rfl, he1 h⟩, fun h1 h2 => ⟨rfl, he2 h1 (by rw [gV.pp] at h2; exact h2)⟩, fun h1 h2 h3 => ⟨rfl, he3 h1 (by rw [gV.pp] at h2; exact h2) (by rw [gV.pp] at h3; exact h3)⟩⟩⟩)))
      rw [gV.pp] at hnew h24
      refine wpb_nil ⟨_, Vw.refl _, V.add n, some (.str n), ?_, by rw [updA_updA], rfl⟩
      rw [etk, ← List.append_assoc]
      exact gV.add hnm hnew h24
    · subst eA eδ
      rw [List.length_map, List.take_length] at gV
      have hto := gV.to
      -- the new ties
      refine wpb_cons (B.for_ (wpi_tup (Ev.wp (B.nm (i := 2) rfl rfl (.inl rfl)) ⟨_, rfl, fun i δ' A' => ∃ (V : WebD) (v5 v6 : Option TL.D), GW V (ns0 ++ ns) (ts0 ++ ts.take i) ∧ (∀ u ∈ ts.take i, u.1 ∈ ns0 ++ ns ∧ u.2 ∈ ns0 ++ ns) ∧ A' = updA A q (.abs (isWeb (cW X.K) lq q V)) ∧
        δ' = [some (.ref p), some (.tup (ns.map .str)), some (.tup (ts.map pr)), some (.ref l1), some (.ref q), v5, v6, v7], ⟨V, v5, v6, by rw [List.take_zero, List.append_nil]; exact gV, fun _ h => (nomatch h), rfl, rfl⟩, fun _ _ _ _ _ => trivial, fun i δ' A' hi ⟨V, v5, v6, gV, hin, eA, eδ⟩ => ?_, fun δ' A' ⟨V, v5, v6, gV, hin, eA, eδ⟩ => ?_⟩)))
      · subst eA eδ
        have hi' : i < ts.length := by simpa using hi
        have etk : ts.take (i + 1) = ts.take i ++ [ts[i]] := take_snoc (List.getElem?_eq_getElem hi')
        obtain ⟨he1, he2⟩ := et hto (ts.take i) ts[i] (ts.drop (i + 1)) (by simp) hin
        refine WPG.to (d' := .tup [.str (ts[i]).1, .str (ts[i]).2]) (B.tt (B.tns (i := 5) rfl (.inl rfl) (B.tns (i := 6) rfl (.inl rfl) (wpgs_nil ?_)))) (getD_map hi')
        generalize ts[i] = tab at he1 he2 etk
        obtain ⟨a, b⟩ := tab
        dsimp only at he1 he2
        refine wpb_cons (wps_putO (ET := fun cls fs A' => A' = updA A q (.abs (isWeb (cW X.K) lq q V)) ∧ ET cls fs A) M.set G.seq Fs (room.mono (by omega)) (TakesD.p (hx.at_.vw fun cls fs A' ⟨eA, h⟩ => ⟨A, by subst eA; exact VwX.sub (Sub.upd (Sub.refl A) hAq), h⟩)) (Ev.wp ev_bl (Ev.wp (B.nm (i := 4) rfl rfl (.inl rfl)) (Ev.wp (ev_tup (eva_cons (B.nm (i := 5) rfl rfl (.inl rfl)) (eva_cons (B.nm (i := 6) rfl rfl (.inl rfl)) eva_nil)) (show 2 ≤ sizeLine by decide)) ⟨q, rfl, web_insC updA_same, q, lq, V, a, b, true, rfl, updA_same, gV.good.1, fun ha hb _ => ?_, fun h => ⟨rfl, he1 (by rw [gV.pp] at h; exact h)⟩, fun h1 h2 => ⟨rfl, he2 (by rw [gV.pp] at h1; exact h1) (by rw [gV.pp] at h2; exact h2)⟩, fun _ _ h => nomatch h⟩))))
        rw [gV.pp] at ha hb
        refine wpb_nil ⟨_, Vw.refl _, V.tie a b, some (.str a), some (.str b), ?_, ?_, by rw [updA_updA], rfl⟩
        · rw [etk, ← List.append_assoc]; exact gV.tie ha hb
        · intro u hu
          rw [etk] at hu
          rcases List.mem_append.mp hu with hu | hu
          · exact hin u hu
          · rw [List.mem_singleton] at hu; rw [hu]; exact ⟨ha, hb⟩
      · subst eA eδ
        rw [List.length_map, List.take_length] at gV hin
        exact wpb_cons (wps_ret (Ev.wp (B.nm (i := 4) rfl rfl (.inl rfl)) (RV.mk (qq hto hin V q lq gV hAq hAl))))
end TL
/-! webs that grow: grows_into -/
namespace TL
open PySem PySem.Spec PyProof.Rows L2
variable {P : Program} {w : World} {K : PySem.W.Frag} {mg : Str → Option Value} {base : Heap} {k : Nat}
/-- a web that lies open -/
def OW (K : PySem.W.Frag) (p : Addr) (W : WebD) (A : AH) : Prop := ∃ (lp lt lr : Addr) (ad : Str → Addr), A p = some (.prim (.ins (cW K) [("_people", .ref lp), ("_ties", .ref lt), ("_reach", .ref lr)])) ∧ A lp = some (.prim (.lst (W.people.map .str))) ∧
  A lr = some (.prim (.dK (W.people.map fun n => (.inr n, .ref (ad n))))) ∧ ∀ n ∈ W.people, A (ad n) = some (.prim (.lst ((W.rc n).map .str)))
theorem OW.sub {K : PySem.W.Frag} {p : Addr} {W : WebD} {A A' : AH} (h : OW K p W A) (k : TL.Sub A A') : OW K p W A' := let ⟨lp, lt, lr, ad, h1, h2, h3, h4⟩ := h; ⟨lp, lt, lr, ad, k _ _ h1, k _ _ h2, k _ _ h3, fun n hn => k _ _ (h4 n hn)⟩
theorem OW.ins {K : PySem.W.Frag} {p : Addr} {W : WebD} {A : AH} (h : OW K p W A) : InsC K A p (cW K) := let ⟨lp, lt, lr, ad, h1, h2, h3, h4⟩ := h; insC_prim h1
theorem FnT.or {f : Addr} {tp tp' : TSp} (F : FnT P w K mg base k f tp) (F' : FnT P w K mg base k f tp') : FnT P w K mg base k f (fun ds A Q E => tp ds A Q E ∨ tp' ds A Q E) := fun A0 outer s H us vs Q E hr e0 rv ⟨ds, A, QT, ET, rp, hR, ht, hQ, hE⟩ =>
  ht.elim (fun t => F A0 outer s H us vs Q E hr e0 rv ⟨ds, A, QT, ET, rp, hR, t, hQ, hE⟩) fun t => F' A0 outer s H us vs Q E hr e0 rv ⟨ds, A, QT, ET, rp, hR, t, hQ, hE⟩
def tpHasO (K : PySem.W.Frag) : TSp := fun ds A Q E => ∃ p W n, ds = [.ref p, .str n] ∧ OW K p W A ∧ Q (.bl (decide (n ∈ W.people))) A
theorem body_whasO (G : WebK K mg) : BodyT P w K mg base N_Web_contains (defScope s_Web_contains) 0 (defBody s_Web_contains) (tpHasO K) := by
  intro X bd ds A Q ET hx ⟨p, W, n, e, ⟨lp, lt, lr, ad, h1, h2, h4, h5⟩, q⟩
  obtain ⟨rfl, rfl, rfl, rfl, rfl, B, room, _, _⟩ := bd
  subst e
  refine wpb_cons (wps_ret (Ev.wp (d := .bl (decide (n ∈ W.people))) ?_ (RV.mk q)))
  exact Ev.to (ev_din (k := .inr n) (by have := room.units; omega) (B.nm (i := 1) rfl rfl (.inl rfl)) (ev_fld (B.nm (i := 0) rfl rfl (.inl rfl)) h1 rfl G.cls G.nR) h4) (by rw [valD_web]; by_cases h : n ∈ W.people <;> simp [h])
def tpNeedO (K : PySem.W.Frag) : TSp := fun ds A Q E => ∃ p W, ∃ ns : List Str, ds = [.ref p, .tup (ns.map .str)] ∧ OW K p W A ∧ (∀ n ∈ ns, n ∈ W.people) ∧ Q .non A
theorem body_needO (G : WebK K mg) : BodyT P w K mg base N_Web_need (defScope s_Web_need) 2 (defBody s_Web_need) (tpNeedO K) := by
  intro X bd ds A Q ET hx ⟨p, W, ns, e, ⟨lp, lt, lr, ad, h1, h2, h4, h5⟩, hin, q⟩
  obtain ⟨rfl, rfl, rfl, rfl, rfl, B, room, _, _⟩ := bd
  subst e
  refine wpb_cons (B.for_ (wpi_tup (Ev.wp (B.nm (i := 1) rfl rfl (.inl rfl)) ⟨_, rfl, fun i δ' A' => A' = A ∧ ∃ v, δ' = (startD N_Web_need [.ref p, .tup (ns.map .str)]).set 2 v, ⟨rfl, none, rfl⟩, fun _ _ _ _ _ => trivial, fun i δ' A' hi ⟨eA, v, eδ⟩ => ?_, fun δ' A' ⟨eA, v, eδ⟩ => ?_⟩)))
  · subst eA eδ
    have hi' : i < ns.length := by simpa using hi
    have hm := hin _ (List.getElem_mem hi')
    refine WPG.to (B.tn (i := 2) rfl (.inl rfl) ?_) (getD_map hi')
    refine wpb_cons (wps_ifE (k := false) ?_ (fun h => nomatch h) fun h => wpb_nil (wpb_nil ⟨_, Vw.refl _, rfl, some (.str ns[i]), by rw [List.set_set]⟩))
    exact EvT.to (et_dnin (k := .inr ns[i]) (by have := room.units; omega) (B.nm (i := 2) rfl rfl (.inl rfl)) (ev_fld (B.nm (i := 0) rfl rfl (.inl rfl)) h1 rfl G.cls G.nR) h4) (by rw [valD_web, if_pos hm]; simp)
  · subst eA
    exact wpb_nil (RV.mk q)
abbrev tpNeedOS (K : PySem.W.Frag) : TSp := fun ds A Q E => ∃ ws rest, ds = ws ++ rest ∧ ws.length = 1 ∧ rest.length ≤ sizeLine ∧ tpNeedO K (ws ++ [.tup rest]) A Q E
def tpGetO (K : PySem.W.Frag) : TSp := fun ds A Q E => ∃ p W a b, ds = [.ref p, pr (a, b)] ∧ OW K p W A ∧ a ∈ W.people ∧ b ∈ W.people ∧ Q (.bl (decide (b ∈ W.rc a))) A
theorem body_wgetO (G : WebK K mg) (F : FnT P w K mg base 3 (wm K "need") (tpNeedOS K)) : BodyT P w K mg base N_Web_getitem (defScope s_Web_getitem) 3 (defBody s_Web_getitem) (tpGetO K) := by
  intro X bd ds A Q ET hx ⟨p, W, a, b, e, ow, ha, hb, q⟩
  obtain ⟨rfl, rfl, rfl, rfl, rfl, B, room, _, _⟩ := bd
  subst e
  obtain ⟨lp, lt, lr, ad, h1, h2, h4, h5⟩ := id ow
  refine wpb_cons (wps_asg (Ev.wp (B.nm (i := 1) rfl rfl (.inl rfl)) (B.tt (B.tns (i := 2) rfl (.inl rfl) (B.tns (i := 3) rfl (.inl rfl) (wpgs_nil ?_))))))
  refine wpb_cons (wps_expr (wpe_meth (ET := NoX) G.cls G.mneed F room pass0 (Ev.wp (B.nm (i := 0) rfl rfl (.inl rfl)) ⟨p, rfl, insT_prim h1 (by rfl), EvA.wp (eva_cons (B.nm (i := 2) rfl rfl (.inl rfl)) (eva_cons (B.nm (i := 3) rfl rfl (.inl rfl)) eva_nil)) ⟨[.ref p], [.str a, .str b], rfl, rfl, (show 2 ≤ sizeLine by decide), p, W, [a, b], rfl, ow, fun n hn => ?_, ?_⟩⟩)))
  · simp only [List.mem_cons, List.not_mem_nil, or_false] at hn
    rcases hn with rfl | rfl
    · exact ha
    · exact hb
  refine wpb_cons (wps_ret (Ev.wp (d := .bl (decide (b ∈ W.rc a))) ?_ (RV.mk q)))
  exact ev_cmp (B.nm (i := 3) rfl rfl (.inl rfl)) (ev_dget (k := .inr a) (by have := room.units; omega) (ev_fld (B.nm (i := 0) rfl rfl (.inl rfl)) h1 rfl G.cls G.nR) (B.nm (i := 2) rfl rfl (.inl rfl)) h4 (by rw [valD_web, if_pos ha])) (opv_inL (ys := W.rc a) (x := b) (h5 a ha) (by have := room.units; show _ + 1 + 0 < _; omega)) rfl
/-- W may grow into V -/
def growsB (W V : WebD) : Bool := (W.people.all fun n => decide (n ∈ V.people)) && W.people.all fun a => (W.rc a).all fun x => decide (x ∈ V.rc a)
def tpGrows (K : PySem.W.Frag) : TSp := fun ds A Q E => ∃ p lp W r lr V, ds = [.ref p, .ref r] ∧ A p = some (.abs (isWeb (cW K) lp p W)) ∧ A r = some (.abs (isWeb (cW K) lr r V)) ∧ (p = r → V = W) ∧ W.ok ∧ Q (.bl (growsB W V)) A
theorem sc_wgrows : FnScope N_Web_grows_into ["self", "other"] (defScope s_Web_grows_into) := ⟨rfl, rfl, rfl, by decide +kernel, rfl, by decide +kernel, by decide +kernel⟩
theorem body_wgrows (G : WebK K mg) (M : WebM K) (hA : mg "all" = none) (Fh : FnT P w K mg base 1 (wm K "__contains__") (fun ds A Q E => tpWHas K ds A Q E ∨ tpHasO K ds A Q E)) (Fg : FnT P w K mg base 4 (wm K "__getitem__") (fun ds A Q E => tpGet K ds A Q E ∨ tpGetO K ds A Q E)) : BodyT P w K mg base N_Web_grows_into (defScope s_Web_grows_into) 6 (defBody s_Web_grows_into) (tpGrows K) := by
  intro X bd ds A Q ET hx ⟨p, lp, W, r, lr0, V, e, hp, hr, hpr, ok, q⟩
  obtain ⟨rfl, rfl, rfl, rfl, rfl, B, room, _, _⟩ := bd
  subst e
  refine WPB.open_ hp fun m hm hmp hn => ?_
  obtain ⟨lt, lr, ad, h1, h2, h3, h4, h5, h6, h7⟩ := id hm
  have ow : OW X.K p W (over A m) := ⟨lp, lt, lr, ad, over_some h1, over_some h2, over_some h4, fun n hn => over_some (h5 n hn)⟩
  have o1 := over_some (A := A) h1
  have o2 := over_some (A := A) h2
  have o4 := over_some (A := A) h4
  have o5 : ∀ n ∈ W.people, over A m (ad n) = some (.prim (.lst ((W.rc n).map .str))) := fun n hn => over_some (h5 n hn)
  have fin : ∀ d, Q d A → RV Q d (over A m) := fun d h => ⟨A, Vw.reclose hp hm hmp hn, h⟩
  have pz : W.people.length ≤ sizeLine := by have := ok.len; rw [sizeLine_eq]; omega
  have ins : InsC X.K (over A m) r (cW X.K) := by
    by_cases z : p = r
    · rw [← z]; exact ow.ins
    · exact web_insC (Frm.open_ hn r _ (Ne.symm z) hr)
  have cH : ∀ A1, TL.Sub (over A m) A1 → ∀ n, ∀ Q1 : TQ, Q1 (.bl (decide (n ∈ V.people))) A1 → tpWHas X.K [.ref r, .str n] A1 Q1 NoX ∨ tpHasO X.K [.ref r, .str n] A1 Q1 NoX := fun A1 k n Q1 q1 => by
    by_cases z : p = r
    · have := hpr z
      subst z this
      exact .inr ⟨p, _, n, rfl, ow.sub k, q1⟩
    · exact .inl ⟨r, lr0, V, n, rfl, k _ _ (Frm.open_ hn r _ (Ne.symm z) hr), q1⟩
  have cG : ∀ A1, TL.Sub (over A m) A1 → ∀ a b, a ∈ V.people → b ∈ V.people → ∀ Q1 : TQ, Q1 (.bl (decide (b ∈ V.rc a))) A1 → tpGet X.K [.ref r, pr (a, b)] A1 Q1 NoX ∨ tpGetO X.K [.ref r, pr (a, b)] A1 Q1 NoX := fun A1 k a b ha hb Q1 q1 => by
    by_cases z : p = r
    · have := hpr z
      subst z this
      exact .inr ⟨p, _, a, b, rfl, ow.sub k, ha, hb, q1⟩
    · exact .inl ⟨r, lr0, V, a, b, rfl, k _ _ (Frm.open_ hn r _ (Ne.symm z) hr), fun _ _ => q1, fun h => (h ha).elim, fun _ h => (h hb).elim⟩
  generalize over A m = OA at *
  refine wpb_cons (wps_ifE (k := !(W.people.all fun n => decide (n ∈ V.people))) (et_not (et_val (B.toBC.eBN rfl hA bt_all (BC.elc (own := [("name", 2)]) (ys := W.people) (en := TL.D.str) .no (fun _ => true) (fun n => .bl (decide (n ∈ V.people))) B (by decide +kernel) (j := 2) rfl rfl (by decide) (evi_list (ev_fld (B.nm (i := 0) rfl rfl (.inl rfl)) o1 rfl G.cls G.nP) o2) pz (fun _ _ => rfl) fun n _ _ s H0 C cl fp => ?_) fun A1 l sA hl => ?_))) (fun hk => ?_) fun hk => wpb_nil ?_)
  · exact ev_cmp (B.toBC.blk.nm (i := 2) rfl rfl (.inl rfl)) (B.toBC.blk.nm (i := 1) rfl rfl (.inr (.inr rfl))) (fun A1 k Q1 q1 => opw_inO (ET := NoX) M.has Fh (room.mono (by omega)) passT0 (fun H hR => ins H (hR.sub k)) (cH A1 k n _ ⟨_, rfl, q1⟩)) rfl
  · rw [List.filter_eq_self.mpr (fun _ _ => rfl), show (W.people.map fun n => TL.D.bl (decide (n ∈ V.people))) = (W.people.map fun n => decide (n ∈ V.people)).map TL.D.bl by rw [List.map_map]; rfl] at hl
    have z1 := cav_all B.calm (.inl hl)
    rw [List.all_map] at z1
    exact z1
  · have e1 : growsB W V = false := by
      have : (W.people.all fun n => decide (n ∈ V.people)) = false := by simpa using hk
      unfold growsB; rw [this, Bool.false_and]
    exact wpb_cons (wps_ret (Ev.wp ev_bl (fin _ (by rw [← e1]; exact q))))
  have hall : ∀ n ∈ W.people, n ∈ V.people := by simpa using hk
  have g1 : (W.people.all fun n => decide (n ∈ V.people)) = true := by simpa using hall
  refine wpb_cons (B.for_ (wpi_list (Ev.wp (ev_fld (B.nm (i := 0) rfl rfl (.inl rfl)) o1 rfl G.cls G.nP) ⟨lp, _, rfl, o2, fun i δ' A' => A' = OA ∧ (∀ a ∈ W.people.take i, ((W.rc a).all fun x => decide (x ∈ V.rc a)) = true) ∧ ∃ v3 v4 : Option TL.D, δ' = [some (.ref p), some (.ref r), none, v3, v4], ⟨rfl, fun _ h => (nomatch h), none, none, rfl⟩, fun i δ' A' _ ⟨eA, _⟩ => by rw [eA]; exact o2, fun i δ' A' hi ⟨eA, hpre, v3, v4, eδ⟩ => ?_, fun δ' A' ⟨eA, hpre, v3, v4, eδ⟩ => ?_⟩)))
  · have eA := eA.symm
    subst eA eδ
    have hi' : i < W.people.length := by simpa using hi
    have hmem := List.getElem_mem hi'
    have etk : W.people.take (i + 1) = W.people.take i ++ [W.people[i]] := take_snoc (List.getElem?_eq_getElem hi')
    refine WPG.to (B.tn (i := 3) rfl (.inr rfl) ?_) (getD_map hi')
    generalize W.people[i] = a at hmem etk
    have rz : (W.rc a).length ≤ sizeLine := by
      have h1 := ok.rnd a hmem
      have h2 := len_le_of_sub h1.1 h1.2
      have := ok.len
      rw [sizeLine_eq]; omega
    refine wpb_cons (wps_ifE (k := !((W.rc a).all fun x => decide (x ∈ V.rc a))) (et_not (et_val (B.toBC.eBN rfl hA bt_all (BC.elc (own := [("person", 4)]) (ys := W.rc a) (en := TL.D.str) .no (fun _ => true) (fun x => .bl (decide (x ∈ V.rc a))) B (by decide +kernel) (j := 4) rfl rfl (by decide) (evi_list (ev_dget (k := .inr a) (by have := room.units; omega) (ev_fld (B.nm (i := 0) rfl rfl (.inl rfl)) o1 rfl G.cls G.nR) (B.nm (i := 3) rfl rfl (.inr (.inl rfl))) o4 (by rw [valD_web, if_pos hmem])) (o5 a hmem)) rz (fun _ _ => rfl) fun x hx' _ s H0 C cl fp => ?_) fun A1 l sA hl => ?_))) (fun hk => ?_) fun hk => wpb_nil (wpb_nil ⟨_, Vw.refl _, rfl, fun y hy => ?_, _, _, rfl⟩))
    · exact fun A1 k Q1 q1 => wpe_subO (ET := NoX) M.get M.getf Fg (room.mono (by omega)) pass0 (Ev.wp (B.toBC.blk.nm (i := 1) rfl rfl (.inr (.inr rfl))) (Ev.wp (ev_tup (eva_cons (B.toBC.blk.nm (i := 3) rfl rfl (.inr (.inr rfl))) (eva_cons (B.toBC.blk.nm (i := 4) rfl rfl (.inl rfl)) eva_nil)) (show 2 ≤ sizeLine by decide)) ⟨r, rfl, fun H hR => ins H (hR.sub k), cG A1 k a x (hall a hmem) (hall x ((ok.rnd a hmem).2 x hx')) Q1 q1⟩))
    · rw [List.filter_eq_self.mpr (fun _ _ => rfl), show ((W.rc a).map fun x => TL.D.bl (decide (x ∈ V.rc a))) = ((W.rc a).map fun x => decide (x ∈ V.rc a)).map TL.D.bl by rw [List.map_map]; rfl] at hl
      have z1 := cav_all B.calm (.inl hl)
      rw [List.all_map] at z1
      exact z1
    · have e2 : ((W.rc a).all fun x => decide (x ∈ V.rc a)) = false := by simpa using hk
      have e1 : growsB W V = false := by
        unfold growsB
        rw [g1, Bool.true_and]
        cases z : W.people.all fun a => (W.rc a).all fun x => decide (x ∈ V.rc a) with
        | false => rfl
        | true => rw [List.all_eq_true] at z; rw [z a hmem] at e2; cases e2
      exact wpb_cons (wps_ret (Ev.wp ev_bl (fin _ (by rw [← e1]; exact q))))
    · rw [etk] at hy
      rcases List.mem_append.mp hy with hy | hy
      · exact hpre y hy
      · rw [List.mem_singleton] at hy
        subst hy
        simpa using hk
  · have eA := eA.symm
    subst eA eδ
    rw [List.length_map, List.take_length] at hpre
    have e1 : growsB W V = true := by
      unfold growsB
      rw [g1, Bool.true_and, List.all_eq_true]
      exact hpre
    exact wpb_cons (wps_ret (Ev.wp ev_bl (fin _ (by rw [← e1]; exact q))))
end TL
/-! tuple(xs), xs[::-1] -/
namespace TL
open PySem PySem.Spec PyProof.Rows L2
theorem paired_rev {α β : Type} {F : α → β → Prop} : ∀ {xs : List α} {ys : List β}, Paired F xs ys → Paired F xs.reverse ys.reverse
  | _, _, .nil => .nil
  | _, _, .cons h t => by
    rw [List.reverse_cons, List.reverse_cons]
    exact Paired.app (paired_rev t) (.cons h .nil)
section
variable {X : Cx} {N : List Str} {sc : Scope} {e a : Expr} {δ : Ds} {A : AH} {Q : TQ} {pos : Pos}
theorem bt_tuple : bootBuiltins ("tuple" : Str) = some (.type "tuple") := by kernel_rfl
theorem cav_tupleL {p : Addr} {xs : List TL.D} (h : RdL X.K A p xs) : CaV X (.type "tuple") [.ref p] A (.tup xs) := fun A1 k Q q => ⟨_, call_tuple_of, fun H vs hr rps R hR => by
  obtain ⟨v, rfl, hv⟩ := rps1 rps
  cases hv
  obtain ⟨ws, h1, h2⟩ := (h.sub k).sq hr
  refine ⟨p, ws, rfl, .inl ⟨h1, fun l hl => ?_⟩⟩
  have ex := ex_upd (o := .tup ws) hl
  have kk : Kp X.K H (upd H l (.tup ws)) := kp_ex ex
  exact hR _ _ (.tup xs) A1 kk (Rp.tups (.of upd_same) (Rps.keep h2 kk)) (hr.stay kk ex) q⟩
theorem evn_rev {k : Nat} {p1 p2 p3 : Pos} {p : Addr} {xs : List TL.D} (ha : Ev X a δ A (.ref p)) (hp : RdL X.K A p xs) : EvN X (.Subscript a (.Slice none none (some (.UnaryOp .USub (.Constant (.int 1) k p1) p2)) p3) pos) δ A (.lst xs.reverse) := fun A1 kk Q q σ H s r => by
  refine runE.of (pe_revL pe_run) (runE.mono (ha A1 kk (fun v A2 => v = .ref p ∧ A2 = A1) ⟨rfl, rfl⟩ σ H s r) fun v H1 ⟨d, A2, k1, rp, hr, e1, e2⟩ => ?_)
  subst e1 e2
  cases rp
  obtain ⟨vs, h1, h2⟩ := (hp.sub kk).sq hr
  refine ⟨p, vs, rfl, h1, fun l hl => ?_⟩
  have ex := ex_upd (o := .lst vs.reverse) hl
  have k2 : Kp X.K H1 (upd H1 l (.lst vs.reverse)) := kp_ex ex
  exact ⟨.ref l, _, k1.trans k2, .ref, hr.new (o := .lst xs.reverse) hl k2 ex ⟨_, upd_same, Rps.keep (paired_rev h2) k2⟩, q l (hr.free hl)⟩
end
end TL
/-! the law's drawing: growth; its list of different ties -/
namespace TL
open PySem PySem.Spec PyProof.Rows L2
variable {P : Program} {w : World} {K : PySem.W.Frag} {mg : Str → Option Value} {base : Heap} {k : Nat}
structure GrowthOk (ns fs : List Str) (tl : List (Str × Str)) : Prop where
  nd : (ns ++ fs).Nodup
  le : fs.length ≤ 3
  good : ∀ n ∈ fs, isName n = true ∧ n.length ≤ 8
  tle : tl.length ≤ 5
  tin : ∀ t ∈ tl, t.1 ∈ ns ++ fs ∧ t.2 ∈ ns ++ fs
def tpGrowth (K : PySem.W.Frag) : TSp := fun ds A Q E => ∃ a, ∃ sc : List Int, ∃ i : Int, ∃ l, ∃ ns : List Str, ds = [.ref a, .int i, .ref l] ∧ RdL K A a (sc.map .int) ∧ 0 ≤ i ∧ i < 100 ∧ A l = some (.prim (.lst (ns.map .str))) ∧ NamesOk ns ∧
  ∀ fs tl l1 l2 A', GrowthOk ns fs tl → TL.Sub A A' → A' l1 = some (.prim (.lst ((ns ++ fs).map .str))) → A' l2 = some (.prim (.lst (tl.map pr))) → Q (.tup [.ref l1, .ref l2]) A'
theorem tape_atI {ts : List Int} {i : Nat} (h : i < ts.length) {j : Int} (e : j = (i : Int)) : atI (ts.map TL.D.int) j = some (.int ts[i]) := by subst e; exact tape_at h
theorem sc_growth : FnScope N_law_growth ["_law_script", "_law_spot", "_law_names_here"] (defScope s_law_growth) := ⟨rfl, rfl, rfl, by decide +kernel, rfl, by decide +kernel, by decide +kernel⟩
theorem body_growth (G : Free mg) (gt : GF K mg "_law_tape") (Ft : FnT P w K mg base 2 (He.ga K "_law_tape") (tpTape K)) (gn : GF K mg "_law_name") (F : FnT P w K mg base 2 (He.ga K "_law_name") tpNameF) : BodyT P w K mg base N_law_growth (defScope s_law_growth) 2 (defBody s_law_growth) (tpGrowth K) := by
  intro X bd ds A Q ET hx ⟨a, scr, i0, l, ns, e, ha, hi0, hi1, hl, hns, q⟩
  obtain ⟨rfl, rfl, rfl, rfl, rfl, B, room, _, _⟩ := bd
  subst e
  have hu := room.units
  refine wpb_cons (B.set (i := 3) rfl (.inl rfl) (B.call (ET := NoX) Ft room rfl gt.g gt.k pass0 (EvA.wp (eva_cons (B.nm (i := 0) rfl rfl (.inl rfl)) (eva_cons (B.nm (i := 1) rfl rfl (.inl rfl)) (eva_cons ev_int eva_nil))) ⟨a, scr, i0, 10, rfl, ha, hi0, hi1, by decide, by decide, fun ts t hlen hok hf1 => ?_⟩)))
  have hlen : ts.length = 10 := hlen
  have sb := Sub.upd (o := .prim (.lst (ts.map .int))) (Sub.refl A) hf1
  have hT : updA A t (.prim (.lst (ts.map .int))) t = some (.prim (.lst (ts.map .int))) := updA_same
  have hl := sb _ _ hl
  generalize updA A t (.prim (.lst (ts.map .int))) = A1 at sb hT hl ⊢
  refine wpb_cons (B.set (i := 4) rfl (.inl rfl) (B.callT rfl G.list bt_list (EvA.wp (eva_cons (B.nm (i := 2) rfl rfl (.inl rfl)) eva_nil) (caw_list (.inl hl) fun r hr => ?_))))
  have ht0 : 0 < ts.length := by omega
  have ht4 : 4 < ts.length := by omega
  have hb0 := hok _ (List.getElem_mem ht0)
  have a1 := upd_new (u := .prim (.lst (ns.map .str))) hT hr
  have n1 := hns.pos
  have n6 := hns.le
  have z3 : ∀ {m : Nat}, m < (ts[0] % 4).toNat → m < 3 := fun h => by
    have := Int.emod_lt_of_pos ts[0] (b := 4) (by decide)
    have := Int.emod_nonneg ts[0] (b := 4) (by decide)
    omega
  have w3 : (ts[0] % 4).toNat ≤ 3 := by
    have := Int.emod_lt_of_pos ts[0] (b := 4) (by decide)
    have := Int.emod_nonneg ts[0] (b := 4) (by decide)
    omega
  refine wpb_cons (B.for_ (wpi_range1 B.toBC rfl G.range (Ev.wp (ev_bin (B.eT rfl G.int bt_int (eva_cons (ev_ix (B.nm (i := 3) rfl rfl (.inl rfl)) ev_int (ixv_list (.inl a1) (tape_atI ht0 rfl))) eva_nil) cav_int) ev_int (opv_mod (by decide))) ⟨_, rfl, by omega, by omega, fun j δ' A' => ∃ (fs : List Str) (v5 v6 : Option TL.D), (ns ++ fs).Nodup ∧ fs.length ≤ j ∧ (∀ n ∈ fs, isName n = true ∧ n.length ≤ 8) ∧ A' = updA A1 r (.prim (.lst ((ns ++ fs).map .str))) ∧
    δ' = [some (.ref a), some (.int i0), some (.ref l), some (.ref t), some (.ref r), v5, v6, none, none, none], ⟨[], none, none, by rw [List.append_nil]; exact hns.nd, Nat.zero_le _, fun _ h => (nomatch h), by rw [List.append_nil], rfl⟩, fun _ _ _ _ _ => trivial, fun j δ' A' hj ⟨fs, v5, v6, h1, h3, h4, eA, eδ⟩ => ?_, fun δ' A' ⟨fs, v5, v6, h1, h3, h4, eA, eδ⟩ => ?_⟩)))
  · subst eA eδ
    have hj3 := z3 hj
    refine WPG.to (B.tn (d := .int j) (i := 5) rfl (.inl rfl) ?_) (by simp)
    have a2 := upd_new (u := .prim (.lst ((ns ++ fs).map TL.D.str))) hT hr
    have hjl : 1 + j < ts.length := by omega
    refine wpb_cons (B.set (i := 6) rfl (.inl rfl) (B.call (ET := NoX) F room rfl gn.g gn.k pass0 (EvA.wp (eva_cons (ev_ix (B.nm (i := 3) rfl rfl (.inl rfl)) (ev_bin ev_int (B.nm (i := 5) rfl rfl (.inl rfl)) opv_add) (ixv_list (.inl a2) (tape_atI hjl (by omega)))) eva_nil) ⟨_, rfl, (hok _ (List.getElem_mem hjl)).1, ?_⟩)))
    obtain ⟨hz, hz8⟩ := nameOf_ok ts[1 + j]
    generalize nameOf ts[1 + j] = z at hz hz8 ⊢
    refine wpb_cons (wps_ifE (et_cmp (B.nm (i := 6) rfl rfl (.inl rfl)) (B.nm (i := 4) rfl rfl (.inl rfl)) (opv_notInL (x := z) (ys := ns ++ fs) updA_same (by show _ + 1 + 0 < _; omega)) rfl) (fun hk => ?_) fun hk => ?_)
    · have hk' : z ∉ ns ++ fs := of_decide_eq_true hk
      refine wpb_cons (wps_expr (wpe_append (Ev.wp (B.nm (i := 4) rfl rfl (.inl rfl)) ⟨r, rfl, ⟨_, updA_same⟩, Ev.wp (B.nm (i := 6) rfl rfl (.inl rfl)) ⟨_, updA_same, by rw [List.length_map, List.length_append, sizeLine_eq]; omega, ?_⟩⟩)))
      refine wpb_nil (wpb_nil ⟨_, Vw.refl _, fs ++ [z], some (.int j), some (.str z), ?_, by simp; omega, ?_, by rw [updA_updA, ← List.append_assoc, List.map_append (l₁ := ns ++ fs)]; rfl, rfl⟩)
      · rw [← List.append_assoc]
        exact List.nodup_append.mpr ⟨h1, by simp, fun a ha b hb => by rw [List.mem_singleton] at hb; subst hb; exact fun z => hk' (z ▸ ha)⟩
      · intro n hn
        rcases List.mem_append.mp hn with hn | hn
        · exact h4 n hn
        · rw [List.mem_singleton] at hn; subst hn; exact ⟨hz, hz8⟩
    · exact wpb_nil (wpb_nil ⟨_, Vw.refl _, fs, some (.int j), some (.str z), h1, by omega, h4, rfl, rfl⟩)
  · subst eA eδ
    generalize (ts[0] % 4).toNat = m0 at h3 w3
    have hl2 := upd_new (u := .prim (.lst ((ns ++ fs).map TL.D.str))) hl hr
    have sb2 := sb.trans (Sub.upd (o := .prim (.lst ((ns ++ fs).map TL.D.str))) (Sub.refl A1) hr)
    have hR : updA A1 r (.prim (.lst ((ns ++ fs).map TL.D.str))) r = some (.prim (.lst ((ns ++ fs).map TL.D.str))) := updA_same
    have hT2 := upd_new (u := .prim (.lst ((ns ++ fs).map TL.D.str))) hT hr
    generalize updA A1 r (.prim (.lst ((ns ++ fs).map TL.D.str))) = A2 at hl2 sb2 hR hT2 ⊢
    obtain ⟨ms, hms⟩ : ∃ ms, ms = ns ++ fs := ⟨_, rfl⟩
    rw [← hms] at hR h1
    have m1 : 1 ≤ ms.length := by rw [hms, List.length_append]; omega
    have m9 : ms.length ≤ 9 := by rw [hms, List.length_append]; omega
    refine wpb_cons (B.set (i := 7) rfl (.inl rfl) (EvN.wp (evn_lst eva_nil (show 0 ≤ sizeLine by decide)) fun s hs => ?_))
    have w5 : (ts[4] % 6).toNat ≤ 5 := by
      have := Int.emod_lt_of_pos ts[4] (b := 6) (by decide)
      have := Int.emod_nonneg ts[4] (b := 6) (by decide)
      omega
    have b1 := upd_new (u := .prim (.lst [])) hT2 hs
    refine wpb_cons (B.for_ (wpi_range1 B.toBC rfl G.range (Ev.wp (ev_bin (B.eT rfl G.int bt_int (eva_cons (ev_ix (B.nm (i := 3) rfl rfl (.inl rfl)) ev_int (ixv_list (.inl b1) (tape_atI ht4 rfl))) eva_nil) cav_int) ev_int (opv_mod (by decide))) ⟨_, rfl, by omega, by omega, fun j δ' A' => ∃ (tl : List (Str × Str)) (v5 v8 v9 : Option TL.D), tl.length = j ∧ (∀ t ∈ tl, t.1 ∈ ms ∧ t.2 ∈ ms) ∧ A' = updA A2 s (.prim (.lst (tl.map pr))) ∧
      δ' = [some (.ref a), some (.int i0), some (.ref l), some (.ref t), some (.ref r), v5, v6, some (.ref s), v8, v9], ⟨[], v5, none, none, rfl, fun _ h => (nomatch h), rfl, rfl⟩, fun _ _ _ _ _ => trivial, fun j δ' A' hj ⟨tl, v5, v8, v9, h1, h2, eA, eδ⟩ => ?_, fun δ' A' ⟨tl, v5, v8, v9, h1, h2, eA, eδ⟩ => ?_⟩)))
    · subst eA eδ
      have hj5 : j < 5 := by omega
      refine WPG.to (B.tn (d := .int j) (i := 5) rfl (.inl rfl) ?_) (by simp)
      have a2 := upd_new (u := .prim (.lst (tl.map pr))) hT2 hs
      have a3 := upd_new (u := .prim (.lst (tl.map pr))) hR hs
      have hjl : 5 + j < ts.length := by omega
      have npos : (0 : Int) < (ms.length : Int) := by omega
      have nle : (ms.length : Int) < 1073741824 := by omega
      have eln : ∀ {δ : Ds} {p1 p2 p3 : Pos}, δ[4]? = some (some (.ref r)) → Ev X (.Call (.Name "len" p1) [.Name "_law_later" p2] [] p3) δ (updA A2 s (.prim (.lst (tl.map pr)))) (.int ms.length) := fun h => Ev.to (B.eB rfl G.len bt_len (eva_cons (B.nm (i := 4) rfl h (.inl rfl)) eva_nil) (cav_len (.inl a3))) (by rw [List.length_map])
      refine wpb_cons (B.set (i := 8) rfl (.inl rfl) (Ev.wp (ev_ix (B.nm (i := 3) rfl rfl (.inl rfl)) (ev_bin ev_int (B.nm (i := 5) rfl rfl (.inl rfl)) opv_add) (ixv_list (.inl a2) (tape_atI hjl (by omega)))) ?_))
      generalize ts[5 + j] = num
      have m1 : 0 ≤ num % (ms.length : Int) ∧ num % (ms.length : Int) < ms.length := ⟨Int.emod_nonneg _ (by omega), Int.emod_lt_of_pos _ npos⟩
      have m2 : 0 ≤ (num / (ms.length : Int)) % (ms.length : Int) ∧ (num / (ms.length : Int)) % (ms.length : Int) < ms.length := ⟨Int.emod_nonneg _ (by omega), Int.emod_lt_of_pos _ npos⟩
      have hx1 : (num % (ms.length : Int)).toNat < ms.length := by omega
      have hx2 : ((num / (ms.length : Int)) % (ms.length : Int)).toNat < ms.length := by omega
      refine wpb_cons (B.set (i := 9) rfl (.inl rfl) (Ev.wp (ev_ix (B.nm (i := 4) rfl rfl (.inl rfl)) (ev_bin (B.eT rfl G.int bt_int (eva_cons (B.nm (i := 8) rfl rfl (.inl rfl)) eva_nil) cav_int) (eln rfl) (opv_mod npos)) (ixv_list (.inl a3) (atI_map m1.1 hx1))) ?_))
      refine wpb_cons (wps_expr (wpe_append (Ev.wp (B.nm (i := 7) rfl rfl (.inl rfl)) ⟨s, rfl, ⟨_, updA_same⟩, Ev.wp (ev_tup (eva_cons (B.nm (i := 9) rfl rfl (.inl rfl)) (eva_cons (ev_ix (B.nm (i := 4) rfl rfl (.inl rfl)) (ev_bin (B.eT rfl G.int bt_int (eva_cons (ev_bin (B.nm (i := 8) rfl rfl (.inl rfl)) (eln rfl) (opv_fdiv ⟨npos, nle⟩)) eva_nil) cav_int) (eln rfl) (opv_mod npos)) (ixv_list (.inl a3) (atI_map m2.1 hx2))) eva_nil)) (show 2 ≤ sizeLine by decide)) ⟨_, updA_same, by rw [List.length_map, sizeLine_eq]; omega, ?_⟩⟩)))
      refine wpb_nil ⟨_, Vw.refl _, tl ++ [(_, _)], some (.int j), some (.int num), some (.str _), by simp [h1], ?_, by rw [updA_updA, List.map_append]; rfl, rfl⟩
      intro t ht
      rcases List.mem_append.mp ht with ht | ht
      · exact h2 t ht
      · rw [List.mem_singleton] at ht
        subst ht
        exact ⟨List.getElem_mem hx1, List.getElem_mem hx2⟩
    · subst eA eδ
      refine wpb_cons (wps_ret (Ev.wp (ev_tup (eva_cons (B.nm (i := 4) rfl rfl (.inl rfl)) (eva_cons (B.nm (i := 7) rfl rfl (.inl rfl)) eva_nil)) (show 2 ≤ sizeLine by decide)) (RV.mk (q fs tl r s _ ⟨by rw [← hms]; assumption, by omega, h4, by omega, by rw [← hms]; exact h2⟩ (sb2.trans (Sub.upd (Sub.refl A2) hs)) (upd_new (by rw [← hms]; exact hR) hs) updA_same))))
def tpKept : TSp := fun ds A Q E => ∃ l, ∃ ts : List (Str × Str), ds = [.ref l] ∧ A l = some (.prim (.lst (ts.map pr))) ∧ ts.length ≤ 100 ∧ ∀ q, A q = none → Q (.ref q) (updA A q (.prim (.lst ((keptOf [] ts).map pr))))
theorem sc_kept : FnScope N_law_kept_ties ["_law_ties_here"] (defScope s_law_kept_ties) := ⟨rfl, rfl, rfl, by decide +kernel, rfl, by decide +kernel, by decide +kernel⟩
theorem body_kept : BodyT P w K mg base N_law_kept_ties (defScope s_law_kept_ties) 1 (defBody s_law_kept_ties) tpKept := by
  intro X bd ds A Q ET hx ⟨l, ts, e, hl, h100, q⟩
  obtain ⟨rfl, rfl, rfl, rfl, rfl, B, room, _, _⟩ := bd
  subst e
  have hu := room.units
  refine wpb_cons (B.set (i := 1) rfl (.inl rfl) (EvN.wp (evn_lst eva_nil (show 0 ≤ sizeLine by decide)) fun k5 hk5 => ?_))
  have hSk : ∀ u, updA A k5 u l = some (.prim (.lst (ts.map pr))) := fun u => upd_new hl hk5
  refine wpb_cons (B.for_ (wpi_list (Ev.wp (B.nm (i := 0) rfl rfl (.inl rfl)) ⟨l, _, rfl, hSk _, fun i δ' A' => ∃ (v2 : Option TL.D), A' = updA A k5 (.prim (.lst ((keptOf [] (ts.take i)).map pr))) ∧ δ' = [some (.ref l), some (.ref k5), v2], ⟨none, rfl, rfl⟩, fun i δ' A' _ ⟨_, eA, _⟩ => by rw [eA]; exact hSk _, fun i δ' A' hi ⟨v2, eA, eδ⟩ => ?_, fun δ' A' ⟨v2, eA, eδ⟩ => ?_⟩)))
  · subst eA eδ
    have hi' : i < ts.length := by simpa using hi
    have ks := kept_snoc hi'
    have kl := kept_len (ts.take i) []
    rw [List.length_take] at kl
    have kl8 : (keptOf [] (ts.take i)).length ≤ 100 := by simp at kl; omega
    refine WPG.to (B.tn (i := 2) rfl (.inl rfl) ?_) (getD_map hi')
    rcases hti : ts[i] with ⟨x, y⟩
    rw [hti] at ks
    generalize keptOf [] (ts.take i) = kk at ks kl8 ⊢
    have hk : updA A k5 (.prim (.lst (kk.map pr))) k5 = some (.prim (.lst (kk.map pr))) := updA_same
    have d6 : ∀ {A : AH} {pos : Pos}, Ev X (.Name "_law_tie" pos) [some (.ref l), some (.ref k5), some (pr (x, y))] A (.tup [.str x, .str y]) := B.nm (i := 2) rfl rfl (.inl rfl)
    have uS : X.A.units + 0 < cLine := by omega
    have uP : X.A.units + 1 + (0 + 1) < cLine := by omega
    refine wpb_cons (wps_ifE (et_w (ew_and (et_cmp (ev_ix d6 ev_int (ixv_tup (z := .str x) rfl)) (ev_ix d6 ev_int (ixv_tup (z := .str y) rfl)) (opv_ne (x := x) (y := y) uS) rfl) fun _ => ew_and1 (et_cmp (B.nm (i := 2) rfl rfl (.inl rfl)) (B.nm (i := 1) rfl rfl (.inl rfl)) (opv_notInL (x := (x, y)) (ys := kk) hk uP) rfl))) (fun h => ?_) fun h => ?_)
    · have h' : x ≠ y ∧ (x, y) ∉ kk := by simpa using h
      rw [if_pos h'] at ks
      refine wpb_cons (wps_expr (wpe_append (Ev.wp (B.nm (i := 1) rfl rfl (.inl rfl)) ⟨k5, rfl, ⟨_, hk⟩, Ev.wp (B.nm (i := 2) rfl rfl (.inl rfl)) ⟨_, hk, by rw [List.length_map, sizeLine_eq]; omega, ?_⟩⟩)))
      refine wpb_nil (wpb_nil ⟨_, Vw.refl _, some (pr (x, y)), ?_, rfl⟩)
      rw [updA_updA, ks, List.map_append]; rfl
    · have h' : ¬ (x ≠ y ∧ (x, y) ∉ kk) := by
        have := h
        simp only [Bool.and_eq_false_iff, decide_eq_false_iff_not] at this
        rcases this with c | c
        · exact fun z => c z.1
        · exact fun z => c z.2
      rw [if_neg h'] at ks
      exact wpb_nil (wpb_nil ⟨_, Vw.refl _, some (pr (x, y)), by rw [ks], rfl⟩)
  · subst eA eδ
    rw [List.length_map, List.take_length]
    exact wpb_cons (wps_ret (Ev.wp (B.nm (i := 1) rfl rfl (.inl rfl)) (RV.mk (q k5 hk5))))
end TL
/-! _law_pairs -/
namespace TL
open PySem PySem.Spec PyProof.Rows L2
variable {P : Program} {w : World} {K : PySem.W.Frag} {mg : Str → Option Value} {base : Heap} {k : Nat}
def tpPairs (K : PySem.W.Frag) : TSp := fun ds A Q E => ∃ p lp W l d ns R, ds = [.ref p, .ref l, .ref d] ∧ A p = some (.abs (isWeb (cW K) lp p W)) ∧ A l = some (.prim (.lst (ns.map .str))) ∧ DictL A d ns R ∧ (∀ n ∈ ns, n ∈ W.people ∧ ∀ x ∈ ns, (x ∈ W.rc n ↔ x ∈ R n)) ∧ Q (.bl true) A
theorem sc_pairs : FnScope N_law_pairs ["_law_web_here", "_law_names_here", "_law_reach_here"] (defScope s_law_pairs) := ⟨rfl, rfl, rfl, by decide +kernel, rfl, by decide +kernel, by decide +kernel⟩
theorem body_pairs (M : WebM K) (gt : GF K mg "_law_truth") (Ft : FnT P w K mg base 1 (He.ga K "_law_truth") tpTruth) (Fg : FnT P w K mg base 4 (wm K "__getitem__") (tpGet K)) : BodyT P w K mg base N_law_pairs (defScope s_law_pairs) 5 (defBody s_law_pairs) (tpPairs K) := by
  intro X bd ds A Q ET hx ⟨p, lp, W, l, d, ns, R, e, hp, hl, ⟨ad, hD, hR⟩, hw, q⟩
  obtain ⟨rfl, rfl, rfl, rfl, rfl, B, room, _, _⟩ := bd
  subst e
  have u1 : X.A.units + 1 < cLine := by have := room.units; omega
  have u3 : X.A.units + 1 + 0 < cLine := by have := room.units; omega
  refine wpb_cons (B.for_ (wpi_list (Ev.wp (B.nm (i := 1) rfl rfl (.inl rfl)) ⟨l, _, rfl, hl, fun i δ' A' => ∃ (v3 v4 : Option TL.D), A' = A ∧ δ' = [some (.ref p), some (.ref l), some (.ref d), v3, v4], ⟨none, none, rfl, rfl⟩, fun i δ' A' _ ⟨_, _, eA, _⟩ => by rw [eA]; exact hl, fun i δ' A' hi ⟨v3, v4, eA, eδ⟩ => ?_, fun δ' A' ⟨v3, v4, eA, eδ⟩ => ?_⟩)))
  · subst eA eδ
    have hi' : i < ns.length := by simpa using hi
    have hmem := List.getElem_mem hi'
    refine WPG.to (B.tn (i := 3) rfl (.inl rfl) ?_) (getD_map hi')
    generalize ns[i] = a at hmem
    refine wpb_cons (B.for_ (wpi_list (Ev.wp (B.nm (i := 1) rfl rfl (.inl rfl)) ⟨l, _, rfl, hl, fun i δ' A2 => ∃ (v4 : Option TL.D), A2 = A' ∧ δ' = [some (.ref p), some (.ref l), some (.ref d), some (.str a), v4], ⟨v4, rfl, rfl⟩, fun i δ' A' _ ⟨_, eA, _⟩ => by rw [eA]; exact hl, fun j δ' A2 hj ⟨v4, eA, eδ⟩ => ?_, fun δ' A2 ⟨v4, eA, eδ⟩ => ?_⟩)))
    · subst eA eδ
      have hj' : j < ns.length := by simpa using hj
      have hmb := List.getElem_mem hj'
      refine WPG.to (B.tn (i := 4) rfl (.inl rfl) ?_) (getD_map hj')
      generalize ns[j] = b at hmb
      have eg : ∀ A1, TL.Sub A2 A1 → ∀ Q : TQ, Q (.bl (decide (b ∈ W.rc a))) A1 → tpGet X.K [.ref p, pr (a, b)] A1 Q NoX := fun A1 k Q q => ⟨p, lp, W, a, b, rfl, k _ _ hp, fun _ _ => q, fun h => (h (hw a hmem).1).elim, fun _ h => (h (hw b hmb).1).elim⟩
      refine wpb_cons (wps_ifE (k := false) (et_not (k := true) (et_val ?_)) (fun h => nomatch h) fun _ => wpb_nil (wpb_nil ⟨_, Vw.refl _, some (.str b), rfl, rfl⟩))
      refine B.ecall Ft (room.mono (by omega)) rfl gt.g gt.k (eva_cons (d := .bl (decide (b ∈ W.rc a))) ?_ (eva_cons (d := .bl (decide (b ∈ R a))) (ev_cmp (B.nm (i := 4) rfl rfl (.inl rfl)) (ev_dget (k := .inr a) u1 (B.nm (i := 2) rfl rfl (.inl rfl)) (B.nm (i := 3) rfl rfl (.inl rfl)) hD (by rw [valD_web, if_pos hmem])) (opv_inL (x := b) (ys := R a) (hR a hmem) u3) rfl) eva_nil)) fun A1 k Q1 q1 => ⟨_, _, rfl, ?_⟩
      · exact fun A1 k Q1 q1 => wpe_subO (ET := NoX) M.get M.getf Fg room pass0 (Ev.wp (B.nm (i := 0) rfl rfl (.inl rfl)) (Ev.wp (ev_tup (eva_cons (B.nm (i := 3) rfl rfl (.inl rfl)) (eva_cons (B.nm (i := 4) rfl rfl (.inl rfl)) eva_nil)) (show 2 ≤ sizeLine by decide)) ⟨p, rfl, web_insC (k _ _ hp), eg A1 k Q1 q1⟩))
      · rw [show decide (decide (b ∈ W.rc a) = decide (b ∈ R a)) = true by rw [decide_eq_true_eq, decide_eq_decide]; exact (hw a hmem).2 b hmb]
        exact q1
    · subst eA eδ
      exact wpb_nil ⟨_, Vw.refl _, some (.str a), v4, rfl, rfl⟩
  · subst eA eδ
    exact wpb_cons (wps_ret (Ev.wp ev_bl (RV.mk q)))
end TL
/-! the law: a web is as it should be; what it is to grow; webs that are built -/
namespace TL
open PySem PySem.Spec PyProof.Rows L2
variable {P : Program} {w : World} {K : PySem.W.Frag} {mg : Str → Option Value} {base : Heap} {k : Nat}
abbrev AllFn (P : Program) (w : World) (K : PySem.W.Frag) (mg : Str → Option Value) (base : Heap) : Prop := ∀ X : Cx, X.prog = P → X.w = w → X.K = K → X.mg = mg → X.base = base → Room 8 X.A → WebFn X
def tpSame (K : PySem.W.Frag) : TSp := fun ds A Q E => ∃ p lp V n t, ∃ (ns : List Str) (ts : List (Str × Str)), ds = [.ref p, .ref n, .ref t] ∧ A p = some (.abs (isWeb (cW K) lp p V)) ∧ A n = some (.prim (.lst (ns.map .str))) ∧ A t = some (.prim (.lst (ts.map pr))) ∧ GW V ns ts ∧ (∀ u ∈ ts, u.1 ∈ ns ∧ u.2 ∈ ns) ∧ ts.length ≤ 100 ∧ Q (.bl true) A
theorem sc_same : FnScope N_law_same ["_law_web_here", "_law_names_here", "_law_ties_here"] (defScope s_law_same) := ⟨rfl, rfl, rfl, by decide +kernel, rfl, by decide +kernel, by decide +kernel⟩
theorem body_same (fr : Free mg) (FF : AllFn P w K mg base) (gk : GF K mg "_law_kept_ties") (Fk : FnT P w K mg base 2 (He.ga K "_law_kept_ties") tpKept) (gp : GF K mg "_law_pairs") (Fp : FnT P w K mg base 6 (He.ga K "_law_pairs") (tpPairs K)) (gr : GF K mg "_law_reach") (Fr : FnT P w K mg base 2 (He.ga K "_law_reach") tpReach) : BodyT P w K mg base N_law_same (defScope s_law_same) 8 (defBody s_law_same) (tpSame K) := by
  intro X bd ds A Q ET hx ⟨p, lp, V, n, t, ns, ts, e, hp, hN, hT, gV, hin, h100, q⟩
  obtain ⟨rfl, rfl, rfl, rfl, rfl, B, room, _, _⟩ := bd
  subst e
  have F := FF X rfl rfl rfl rfl rfl room
  have hl := gV.good.len
  have n0 : ∀ {A : AH} {pos}, Ev X (.Name "_law_web_here" pos) (startD N_law_same [.ref p, .ref n, .ref t]) A (.ref p) := B.nm (i := 0) rfl rfl (.inl rfl)
  have n1 : ∀ {A : AH} {pos}, Ev X (.Name "_law_names_here" pos) (startD N_law_same [.ref p, .ref n, .ref t]) A (.ref n) := B.nm (i := 1) rfl rfl (.inl rfl)
  have n2 : ∀ {A : AH} {pos}, Ev X (.Name "_law_ties_here" pos) (startD N_law_same [.ref p, .ref n, .ref t]) A (.ref t) := B.nm (i := 2) rfl rfl (.inl rfl)
  refine wpb_cons (wps_ifE (k := false) (EvT.to (et_w (ew_or (F.listNe B.toBC rfl n0 hp hl (ys := ns) n1 hN) fun _ =>
    ew_or (k := false) (et_not (k := true) (et_val (ev_drop fun A1 k => B.callB rfl fr.isi bt_isinstance (wpa_cons (F.ties (n0.sub k) (k _ _ hp) fun q hq => EvA.wp (eva_cons (B.ty rfl fr.list bt_list) eva_nil) (cav_isList updA_same _ (Sub.refl _) _ ⟨rfl, Sub.upd (Sub.refl _) hq⟩)))))) fun _ =>
    ew_or1 (F.tiesNeN n0 hp (ys := keptOf [] ts) (fun A1 k Q1 q1 => B.call (ET := NoX) Fk (room.mono (by decide)) rfl gk.g gk.k pass0 (EvA.wp (eva_cons n2 eva_nil) ⟨t, ts, rfl, k _ _ hT, h100, q1⟩))))) (by rw [gV.pp, gV.tt]; simp)) (fun h => nomatch h) fun _ => wpb_nil ?_)
  refine wpb_cons (wps_ret (Ev.wp (d := .bl true) (ev_drop fun A1 k => B.call (ET := NoX) Fp (room.mono (by decide)) rfl gp.g gp.k pass0 (wpa_cons (Ev.wp n0 (wpa_cons (Ev.wp n1 (wpa_cons (B.call (ET := NoX) Fr (room.mono (by decide)) rfl gr.g gr.k pass0 (EvA.wp (eva_cons n1 (eva_cons n2 eva_nil)) ⟨n, t, ns, ts, rfl, k _ _ hN, k _ _ hT, gV.nd, gV.len, hin, fun d A' R s hD hR => wpa_nil ⟨p, lp, V, n, d, ns, R, rfl, s _ _ (k _ _ hp), s _ _ (k _ _ hN), hD, fun x hx => ⟨by rw [gV.pp]; exact hx, fun y hy => by rw [gV.path hx, hR x hx]⟩, rfl, s⟩⟩)))))))) (RV.mk q)))
/-- what the law reckons of two webs -/
def growsL (n1 : List Str) (R1 : Str → List Str) (n2 : List Str) (R2 : Str → List Str) : Bool := n1.all fun a => decide (a ∈ n2) && (R1 a).all fun x => decide (x ∈ R2 a)
def tpLGrows : TSp := fun ds A Q E => ∃ w1 d1 w2 d2 : TL.D, ∃ a1 b1 a2 b2, ∃ (n1 n2 : List Str) (R1 R2 : Str → List Str), ds = [.tup [w1, .ref a1, .ref b1], .tup [w2, .ref a2, .ref b2]] ∧ A a1 = some (.prim (.lst (n1.map .str))) ∧ A a2 = some (.prim (.lst (n2.map .str))) ∧ DictL A b1 n1 R1 ∧ DictL A b2 n2 R2 ∧ Q (.bl (growsL n1 R1 n2 R2)) A
theorem sc_lgrows : FnScope N_law_grows ["_law_first", "_law_second"] (defScope s_law_grows) := ⟨rfl, rfl, rfl, by decide +kernel, rfl, by decide +kernel, by decide +kernel⟩
theorem body_lgrows : BodyT P w K mg base N_law_grows (defScope s_law_grows) 1 (defBody s_law_grows) tpLGrows := by
  intro X bd ds A Q ET hx ⟨w1, _, w2, _, a1, b1, a2, b2, n1, n2, R1, R2, e, h1, h2, ⟨c1, D1, L1⟩, ⟨c2, D2, L2⟩, q⟩
  obtain ⟨rfl, rfl, rfl, rfl, rfl, B, room, _, _⟩ := bd
  subst e
  have hu := room.units
  have u1 : X.A.units + 1 < cLine := by omega
  have uS : X.A.units + 1 + 0 < cLine := by omega
  have f0 : ∀ {v2 v3 : Option TL.D} {pos}, Ev X (.Name "_law_first" pos) [some (.tup [w1, .ref a1, .ref b1]), some (.tup [w2, .ref a2, .ref b2]), v2, v3] A (.tup [w1, .ref a1, .ref b1]) := B.nm (i := 0) rfl rfl (.inl rfl)
  have f1 : ∀ {v2 v3 : Option TL.D} {pos}, Ev X (.Name "_law_second" pos) [some (.tup [w1, .ref a1, .ref b1]), some (.tup [w2, .ref a2, .ref b2]), v2, v3] A (.tup [w2, .ref a2, .ref b2]) := B.nm (i := 1) rfl rfl (.inl rfl)
  refine wpb_cons (B.for_ (wpi_list (Ev.wp (ev_ix f0 ev_int (ixv_tup (z := .ref a1) rfl)) ⟨a1, _, rfl, h1, fun i δ' A' => A' = A ∧ (∀ a ∈ n1.take i, (decide (a ∈ n2) && (R1 a).all fun x => decide (x ∈ R2 a)) = true) ∧ ∃ v2 v3 : Option TL.D, δ' = [some (.tup [w1, .ref a1, .ref b1]), some (.tup [w2, .ref a2, .ref b2]), v2, v3], ⟨rfl, fun _ h => (nomatch h), none, none, rfl⟩, fun i δ' A' _ ⟨eA, _⟩ => by rw [eA]; exact h1, fun i δ' A' hi ⟨eA, hpre, v2, v3, eδ⟩ => ?_, fun δ' A' ⟨eA, hpre, v2, v3, eδ⟩ => ?_⟩)))
  · have eA := eA.symm
    subst eA eδ
    have hi' : i < n1.length := by simpa using hi
    have hm := List.getElem_mem hi'
    have etk : n1.take (i + 1) = n1.take i ++ [n1[i]] := take_snoc (List.getElem?_eq_getElem hi')
    refine WPG.to (B.tn (i := 2) rfl (.inl rfl) ?_) (getD_map hi')
    generalize n1[i] = a at hm etk
    refine wpb_cons (wps_ifE (et_cmp (B.nm (i := 2) rfl rfl (.inl rfl)) (ev_ix f1 ev_int (ixv_tup (z := .ref a2) rfl)) (opv_notInL (x := a) (ys := n2) h2 uS) rfl) (fun hk => ?_) fun hk => wpb_nil ?_)
    · have hk' : a ∉ n2 := of_decide_eq_true hk
      have e1 : growsL n1 R1 n2 R2 = false := by
        unfold growsL
        rw [List.all_eq_false]
        exact ⟨a, hm, by simp [hk']⟩
      exact wpb_cons (wps_ret (Ev.wp ev_bl (RV.mk (by rw [← e1]; exact q))))
    · have hk' : a ∈ n2 := Classical.byContradiction (of_decide_eq_false hk)
      refine wpb_cons (B.for_ (wpi_list (Ev.wp (ev_dget (k := .inr a) u1 (ev_ix f0 ev_int (ixv_tup (z := .ref b1) rfl)) (B.nm (i := 2) rfl rfl (.inl rfl)) D1 (by rw [valD_web, if_pos hm])) ⟨c1 a, _, rfl, L1 a hm, fun j δ' A' => A' = A' ∧ A' = _ ∧ (∀ x ∈ (R1 a).take j, decide (x ∈ R2 a) = true) ∧ ∃ v3 : Option TL.D, δ' = [some (.tup [w1, .ref a1, .ref b1]), some (.tup [w2, .ref a2, .ref b2]), some (.str a), v3], ⟨rfl, rfl, fun _ h => (nomatch h), _, rfl⟩, fun j δ' A' _ ⟨_, eA, _⟩ => by rw [eA]; exact L1 a hm, fun j δ' A' hj ⟨_, eA, hp2, v3, eδ⟩ => ?_, fun δ' A' ⟨_, eA, hp2, v3, eδ⟩ => ?_⟩)))
      · subst eA eδ
        have hj' : j < (R1 a).length := by simpa using hj
        have hm2 := List.getElem_mem hj'
        have etk2 : (R1 a).take (j + 1) = (R1 a).take j ++ [(R1 a)[j]] := take_snoc (List.getElem?_eq_getElem hj')
        refine WPG.to (B.tn (i := 3) rfl (.inl rfl) ?_) (getD_map hj')
        generalize (R1 a)[j] = x at hm2 etk2
        refine wpb_cons (wps_ifE (et_cmp (B.nm (i := 3) rfl rfl (.inl rfl)) (ev_dget (k := .inr a) u1 (ev_ix f1 ev_int (ixv_tup (z := .ref b2) rfl)) (B.nm (i := 2) rfl rfl (.inl rfl)) D2 (by rw [valD_web, if_pos hk'])) (opv_notInL (x := x) (ys := R2 a) (L2 a hk') uS) rfl) (fun h => ?_) fun h => wpb_nil ?_)
        · have h' : x ∉ R2 a := of_decide_eq_true h
          have e1 : growsL n1 R1 n2 R2 = false := by
            unfold growsL
            rw [List.all_eq_false]
            refine ⟨a, hm, ?_⟩
            have : ((R1 a).all fun x => decide (x ∈ R2 a)) = false := by
              rw [List.all_eq_false]
              exact ⟨x, hm2, by simp [h']⟩
            rw [this, Bool.and_false]; simp
          exact wpb_cons (wps_ret (Ev.wp ev_bl (RV.mk (by rw [← e1]; exact q))))
        · have h' : x ∈ R2 a := Classical.byContradiction (of_decide_eq_false h)
          refine wpb_nil ⟨_, Vw.refl _, rfl, rfl, fun y hy => ?_, some (.str x), rfl⟩
          rw [etk2] at hy
          rcases List.mem_append.mp hy with hy | hy
          · exact hp2 y hy
          · rw [List.mem_singleton] at hy; subst hy; exact decide_eq_true h'
      · subst eA eδ
        rw [List.length_map, List.take_length] at hp2
        refine wpb_nil ⟨_, Vw.refl _, rfl, fun y hy => ?_, some (.str a), v3, rfl⟩
        rw [etk] at hy
        rcases List.mem_append.mp hy with hy | hy
        · exact hpre y hy
        · rw [List.mem_singleton] at hy
          subst hy
          rw [decide_eq_true hk', Bool.true_and, List.all_eq_true]
          exact hp2
  · have eA := eA.symm
    subst eA eδ
    rw [List.length_map, List.take_length] at hpre
    have e1 : growsL n1 R1 n2 R2 = true := by
      unfold growsL
      rw [List.all_eq_true]
      exact hpre
    exact wpb_cons (wps_ret (Ev.wp ev_bl (RV.mk (by rw [← e1]; exact q))))
def tpBuilt (K : PySem.W.Frag) : TSp := fun ds A Q E => ∃ n t, ∃ (ns : List Str) (ts : List (Str × Str)), ds = [.ref n, .ref t] ∧ A n = some (.prim (.lst (ns.map .str))) ∧ A t = some (.prim (.lst (ts.map pr))) ∧ goodTo ns ∧ (∀ x ∈ ns, x.length ≤ 8) ∧ (∀ u ∈ ts, u.1 ∈ ns ∧ u.2 ∈ ns) ∧
  ∀ p lp V d R A', GW V ns ts → A p = none → TL.Sub A A' → A' p = some (.abs (isWeb (cW K) lp p V)) → DictL A' d ns R → (∀ x ∈ ns, ∀ y, y ∈ R x ↔ Path ts x y) → Q (.tup [.ref p, .ref n, .ref d]) A'
theorem sc_built : FnScope N_law_built ["_law_names_here", "_law_ties_here"] (defScope s_law_built) := ⟨rfl, rfl, rfl, by decide +kernel, rfl, by decide +kernel, by decide +kernel⟩
theorem body_built (gw : GF K mg "_law_web") (Fw : FnT P w K mg base 7 (He.ga K "_law_web") (tpLWeb K)) (gr : GF K mg "_law_reach") (Fr : FnT P w K mg base 2 (He.ga K "_law_reach") tpReach) : BodyT P w K mg base N_law_built (defScope s_law_built) 7 (defBody s_law_built) (tpBuilt K) := by
  intro X bd ds A Q ET hx ⟨n, t, ns, ts, e, hN, hT, gt, h8, hin, q⟩
  obtain ⟨rfl, rfl, rfl, rfl, rfl, B, room, _, _⟩ := bd
  subst e
  have n0 : ∀ {A : AH} {pos}, Ev X (.Name "_law_names_here" pos) (startD N_law_built [.ref n, .ref t]) A (.ref n) := B.nm (i := 0) rfl rfl (.inl rfl)
  have n1 : ∀ {A : AH} {pos}, Ev X (.Name "_law_ties_here" pos) (startD N_law_built [.ref n, .ref t]) A (.ref t) := B.nm (i := 1) rfl rfl (.inl rfl)
  refine wpb_cons (wps_ret (wpe_tup (wpa_cons (B.call (ET := NoX) Fw room rfl gw.g gw.k pass0 (EvA.wp (eva_cons n0 (eva_cons n1 eva_nil)) ⟨n, t, ns, ts, rfl, hN, hT, gt.1, gt.2.1, fun x hx => ⟨gt.2.2 x hx, h8 x hx⟩, hin, fun p lp hp hlp => wpa_cons (Ev.wp n0 (wpa_cons (B.call (ET := NoX) Fr (room.mono (by decide)) rfl gr.g gr.k pass0 (EvA.wp (eva_cons n0 (eva_cons n1 eva_nil)) ⟨n, t, ns, ts, rfl, upd_new hN hp, upd_new hT hp, gt.1, gt.2.1, hin, fun d A' R s hD hR => wpa_nil ⟨(show 3 ≤ sizeLine by decide), RV.mk (q p lp _ d R A' (GW.webT gt hin) hp ((Sub.upd (Sub.refl _) hp).trans s) (s _ _ updA_same) hD hR)⟩⟩))))⟩)))))
end TL
/-! sets of texts: the object, its add, sorted(s) -/
namespace TL
open PySem PySem.Spec PyProof.Rows L2
open PySem.Froz (SD sObj tailTx addTx TxOk is_str add_ok add_x)
/-- a set of texts at a: its members, in some order; its table rises and can be walked -/
def SetS (P : Program) (w : World) (h : Heap) (a : Addr) (l : List Str) : Prop := ∃ D : SD, h.get? a = some (sObj "set" D) ∧ TxOk P w D l ∧ l.Nodup ∧ Ris D.2.2.place.toList ∧ (w.params.followText "set-order" = true ∨ D.2.2.led = true) ∧ l.length < scanBound
/-- a member more -/
def insS (k : Str) (l : List Str) : List Str := if k ∈ l then l else k :: l
theorem insS_mem {k x : Str} {l : List Str} : x ∈ insS k l ↔ x = k ∨ x ∈ l := by
  unfold insS
  by_cases h : k ∈ l
  · rw [if_pos h]
    exact ⟨.inr, fun z => z.elim (fun e => e ▸ h) id⟩
  · rw [if_neg h, List.mem_cons]
theorem insS_nd {k : Str} {l : List Str} (h : l.Nodup) : (insS k l).Nodup := by
  unfold insS
  by_cases c : k ∈ l
  · rw [if_pos c]; exact h
  · rw [if_neg c]; exact List.nodup_cons.mpr ⟨c, h⟩
theorem insS_len {k : Str} {l : List Str} : (insS k l).length ≤ l.length + 1 := by
  unfold insS
  by_cases c : k ∈ l
  · rw [if_pos c]; exact Nat.le_succ _
  · rw [if_neg c]; exact Nat.le_refl _
section
variable {P : Program} {w : World} {A : Around} {E : Value → Shared → Prop} {s : Shared} {h h' : Heap} {a : Addr} {l : List Str} {k : Str} {u : Tok}
theorem SetS.at (R : SetS P w h a l) (kp : ∀ o, h.get? a = some o → h'.get? a = some o) : SetS P w h' a l := let ⟨D, h1, r⟩ := R; ⟨D, kp _ h1, r⟩
theorem SetS.typeIs (R : SetS P w s.heap a l) : s.TypeIs (.ref a) "set" := let ⟨D, h1, _⟩ := R; ⟨_, h1, rfl⟩
theorem tail_ris {ep : Nat} {es : Array (Int × Value)} {t : SetTable} {b : Bool} (r : Ris t.place.toList) : Ris (tailTx ep es t b).2.2.place.toList := by
  unfold tailTx
  by_cases c : (!b && t.tooFull) = true
  · rw [if_pos c]; exact relayAll_ris _ _ _
  · rw [if_neg c]; exact r
theorem tail_led {ep : Nat} {es : Array (Int × Value)} {t : SetTable} {b : Bool} (r : t.led = true) : (tailTx ep es t b).2.2.led = true := by
  unfold tailTx
  by_cases c : (!b && t.tooFull) = true
  · rw [if_pos c]; exact (relayAll_led _ _ _).trans r
  · rw [if_neg c]; exact r
/-- the table behind an add rises, too -/
theorem addTx_ris {v : Value} {z : Int} {D : SD} (r : Ris D.2.2.place.toList) : Ris (addTx z v D).2.2.place.toList := by
  have r1 : Ris (layNew D.2.2 D.1 z v).2.1.place.toList := layNew_ris D.2.2 D.1 z v r
  refine tail_ris ?_
  by_cases c : (layNew D.2.2 D.1 z v).2.1.plain = true
  · rw [if_pos c]; exact r1
  · rw [if_neg c]; exact r1
theorem addTx_led {v : Value} {z : Int} {D : SD} (r : D.2.2.led = true) : (addTx z v D).2.2.led = true := by
  have r1 : (layNew D.2.2 D.1 z v).2.1.led = true := (layNew_led D.2.2 D.1 z v).trans r
  refine tail_led ?_
  by_cases c : (layNew D.2.2 D.1 z v).2.1.plain = true
  · rw [if_pos c]; exact r1
  · rw [if_neg c]; exact r1
/-- what stands there is not laid again -/
theorem again_x {D : SD} {Q : Bool → Shared → Prop} (ho : s.heap.get? a = some (sObj "set" D)) (F : TxOk P w D l) (hk : k ∈ l) (hb : l.length < scanBound) (q : Q false s) : wpAny (model P w) A (setAddHashed a (.str k u) (hashStr w k)) Q E s := by
  obtain ⟨es, ep, t⟩ := D
  have dd : (sObj "set" (es, ep, t)).data = .set es ep t := rfl
  have zz : es.size < scanBound := by rw [show es.size = l.length from F.sz]; exact hb
  have kk : (strKind P w).is k (.str k u) = true := is_str k u
  obtain ⟨e, he, hek⟩ := (F.mem k).mp hk
  unfold setAddHashed setAddHashedIn
  refine wpAny_holding (wpAny_bind (wpAny_setState_of ho dd F.fit ?_))
  dsimp only
  rw [byScan_of rfl zz F.el, if_pos rfl]
  unfold setAddByScan
  refine wpAny_bind (wpAny_bind (wpAny_rule (wpAny_bind (wpAny_setScan_of (knd := strKind P w) kk ho dd F.fit F.el ?_))))
  cases fi : List.findIdx? (fun e => (strKind P w).is k e.2) es.toList with
  | some j => exact wpAny_pure (wpAny_pure q)
  | none =>
    have c := List.findIdx?_eq_none_iff.mp fi e he
    rw [hek] at c
    cases c
/-- an add -/
theorem setS_addV {Q : Bool → Shared → Prop} (R : SetS P w s.heap a l) (room : l.length + 1 < scanBound)
    (q : ∀ b g, Heap.SameBut a s.heap g → SetS P w g a (insS k l) → Q b { s with heap := g, toks := s.toks + 1 }) : wpAny (model P w) A (setAdd a (.str k u)) Q E s := by
  obtain ⟨D, ho, F, nd, ri, le, lb⟩ := R
  unfold setAdd
  refine wpAny_holding (wpAny_bind ((strKind P w).pyHash (is_str k u) ?_))
  by_cases c : k ∈ l
  · exact again_x (s := { s with toks := s.toks + 1 }) ho F c lb (q false s.heap (Heap.SameBut.refl a s.heap) (by unfold insS; rw [if_pos c]; exact ⟨D, ho, F, nd, ri, le, lb⟩))
  · refine add_x (s := { s with toks := s.toks + 1 }) ho F c room (q true _ (Heap.SameBut.update s.heap a _) ?_)
    unfold insS
    rw [if_neg c]
    exact ⟨_, PySem.Froz.get_upd _ ho rfl, add_ok u F, List.nodup_cons.mpr ⟨c, nd⟩, addTx_ris ri, le.imp id addTx_led, room⟩
/-- s.add(k) -/
theorem setS_add {Q : Value → Shared → Prop} (R : SetS P w s.heap a l) (room : l.length + 1 < scanBound)
    (q : ∀ g, Heap.SameBut a s.heap g → SetS P w g a (insS k l) → Q .none { s with heap := g, toks := s.toks + 1 }) : wpAny (model P w) A (call (.builtin "set.add") [.ref a, .str k u]) Q E s := by
  refine wpAny_call_entry F.slot_set_add R.typeIs F.entry_set_add ?_ (F.args_set_add_2 _ _)
  unfold Builtin.«set.add» Builtin.Frozenset.oneOther
  simp only [List.isEmpty_nil, bind_assoc]
  unfold Builtin.Frozenset.addrOf
  exact wpAny_bind (wpAny_pure (wpAny_bind (wpAny_pure (wpAny_bind (setS_addV R room fun b g sb r => wpAny_pure ⟨_, rfl, q g sb r⟩)))))
/-- the set that is new -/
def newS (w : World) : Obj := { cls := .type "set", dict := none, data := .set #[] 0 (.fresh 0 0 (!w.params.followText "set-order")) }
theorem setS_fresh : SetS P w (h.push (newS w)) h.objs.size [] := by
  refine ⟨(#[], 0, .fresh 0 0 (!w.params.followText "set-order")), Heap.get?_push_size _ rfl, TxOk.nil rfl, List.nodup_nil, List.Pairwise.nil, ?_, by decide⟩
  show _ ∨ (!w.params.followText "set-order") = true
  cases w.params.followText "set-order" with
  | true => exact .inl rfl
  | false => exact .inr rfl
end
end TL
/-! sorted(s) of a set of texts -/
namespace TL
open PySem PySem.Spec PyProof.Rows L2
open PySem.Froz (SD sObj TxOk is_str)
theorem perm_of_in {α : Type} [DecidableEq α] : ∀ {l K : List α}, l.Nodup → (∀ x ∈ l, x ∈ K) → K.length = l.length → K.Perm l
  | [], K, _, _, hl => by
    have : K = [] := List.length_eq_zero_iff.mp hl
    rw [this]
  | a :: l, K, nd, hs, hl => by
    have nd2 := List.nodup_cons.mp nd
    have ha := hs a List.mem_cons_self
    have p := List.perm_cons_erase ha
    have ih := perm_of_in (l := l) (K := K.erase a) nd2.2 (fun x hx => (List.mem_erase_of_ne (fun (e : x = a) => nd2.1 (e ▸ hx))).mpr (hs x (List.mem_cons_of_mem _ hx))) (by
      rw [List.length_erase_of_mem ha, hl]; simp)
    exact p.trans (ih.cons a)
section
variable {P : Program} {w : World} {A : Around} {E : Value → Shared → Prop} {s : Shared} {a : Addr} {l : List Str}
theorem setS_sorted {Q : Value → Shared → Prop} (R : SetS P w s.heap a l) (hh : A.handled = none) (h64 : l.length < 64)
    (q : ∀ s' p (out : Array Value) (c : Nat) (ys : List Str), (∀ b o, s.heap.get? b = some o → s'.heap.get? b = some o) → s'.gens = s.gens → s'.os = s.os → s.heap.objs.size ≤ p → s'.heap.get? p = some (seqObj "list" out c) → StrsAre out.toList ys → ys.Perm l → sortedS ys = true → Q (.ref p) s') :
    wpAny (model P w) A (call (.builtin "sorted") [.ref a]) Q E s := by
  obtain ⟨⟨es, ep, t⟩, ho, F, nd, ri, le, lb⟩ := R
  have zz : es.size = l.length := F.sz
  have el : ∀ e ∈ es.toList, ∃ k u, e.2 = Value.str k u := fun e he => by
    obtain ⟨⟨k, hk, _⟩, _⟩ := F.el e he
    obtain ⟨u, hu⟩ := Value.isStrOf_shape hk
    exact ⟨k, u, hu⟩
  refine Calls.call_function_entry kind_sorted plain_sorted entry_sorted (args_sorted1 _) ?_
  unfold Builtin.«sorted»
  refine wpAny_bind (m := checkCount "sorted" 1 1 _) (wpAny_pure (wpAny_bind (collect_set (A := A.in1) hh ⟨_, ho, rfl, rfl⟩ F.fit (by rw [zz]; exact lb) ri le fun s1 vs k1 hz g1 o1 pm => ?_)))
  have lv : vs.length = l.length := by rw [pm.length_eq, List.length_map, Array.length_toList]; exact zz
  have all : ∀ v ∈ vs, ∃ x tk, v = Value.str x tk := fun v hv => by
    obtain ⟨e, he, rfl⟩ := List.mem_map.mp (pm.mem_iff.mp hv)
    exact el e he
  have hS : StrsAre vs (vs.map strOf) := strsAre_map vs all
  have pl : (vs.map strOf).Perm l := by
    refine perm_of_in nd (fun x hx => ?_) (by rw [List.length_map]; exact lv)
    obtain ⟨e, he, hk⟩ := (F.mem x).mp hx
    obtain ⟨u, hu⟩ := Value.isStrOf_shape hk
    exact List.mem_map.mpr ⟨e.2, pm.mem_iff.mpr (List.mem_map.mpr ⟨e, he, rfl⟩), by rw [hu]; rfl⟩
  refine wpAny_bind (wpAny_newList ?_ (by rw [lv, sizeLine_eq]; omega))
  have hL : (s1.heap.push (seqObj "list" vs.toArray 0)).get? s1.heap.objs.size = some (seqObj "list" vs.toArray 0) := Heap.get?_push_size _ rfl
  refine wpAny_bind (wpAny_holding (wpAny_call_entry slot_list_sort ⟨_, hL, rfl⟩ entry_list_sort (list_sort_treeK strKind_oneLt hL hS.keysOf (fun v₁ v₂ rest e => keyKind_strs (by rw [← e]; exact hS)) (by rw [lv]; exact h64) fun st hp hs => ⟨_, rfl, ?_⟩) (args_list_sort _)))
  obtain ⟨ys, y1, y2, y3⟩ := sorted_out_str hS hp hs
  obtain ⟨c, hc⟩ := sortedHeap_at (vs := vs) (out := (arrOf st).map (·.2)) hL
  refine wpAny_pure ⟨_, rfl, q _ s1.heap.objs.size _ c ys (fun b o e => ?_) g1 o1 hz hc y1 (y2.trans pl) y3⟩
  have e1 := k1 b o e
  have lt1 := Heap.lt_size e1
  show (sortedHeap (s1.heap.push (seqObj "list" vs.toArray 0)) s1.heap.objs.size vs _).get? b = some o
  rw [sortedHeap_old (Nat.ne_of_lt lt1) (by rw [size_push']; exact Nat.lt_succ_of_lt lt1)]
  exact Heap.get?_push_of_some _ e1
end
end TL
/-! {e for x in xs}, e a text; sorted of it -/
namespace TL
open PySem PySem.Spec PyProof.Rows L2
/-- the set of texts at a, tracked -/
def SetSO (P : Program) (w : World) (a : Addr) (l : List Str) : HO := .ext fun h => SetS P w h a l
theorem setSO_ok {P : Program} {w : World} {H : Hp} {h : Heap} {a : Addr} {l : List Str} (R : SetS P w h a l) : ObjOk P w H h a (SetSO P w a l) := ⟨R, let ⟨_, e, _⟩ := R; ⟨_, e⟩, fun _ _ p k => SetS.at p k⟩
section
variable {X : Cx} {pins : List (Addr × Obj)} {σ : L2.St} {H : Hp} {s : Shared}
theorem setSO_at {a : Addr} {l : List Str} (I : Inv X pins σ H s) (ha : H a = some (SetSO X.prog X.w a l)) : SetS X.prog X.w s.heap a l := (I.hok a _ ha).1
theorem addSO {E : Value → Shared → Prop} {D : Addr} {l : List Str} {k : Str} {u : Tok} {Q : Value → Shared → Prop} (I : Inv X pins σ H s) (hD : H D = some (SetSO X.prog X.w D l)) (room : l.length + 1 < scanBound)
    (q : ∀ s', Inv X pins σ (upd H D (SetSO X.prog X.w D (insS k l))) s' → Q .none s') : wpAny (model X.prog X.w) X.A (call (.builtin "set.add") [.ref D, .str k u]) Q E s :=
  setS_add (setSO_at I hD) room fun g sb R => q _ (I.write (e := D) (t' := s.toks + 1) (by rw [hD]; trivial) (.inl rfl) (fun b o hb e => (sb.2 b hb).trans e) (let ⟨_, e, _⟩ := R; ⟨_, e⟩) (setSO_ok R))
/-- what the walk of a set comprehension asks -/
def tScS (P : Program) (w : World) (wi : TI) (g : TG) (te : TE) (vs : List Nat) : TE := fun σ H Q => wi σ H fun J H1 => ∀ D, H1 D = none → ∃ W : Nat → Nat → Hp → Prop, (∃ m, W 0 m (upd H1 D (SetSO P w D []))) ∧ ∀ i m H2, W i m H2 →
  (J.stop i H2 ∧ Q (.ref D) H2) ∨ (J.go i H2 ∧ ∃ Nx : Hp → Prop, (∀ H', Nx H' → ∃ m', m' < m ∧ W (i + 1) m' H') ∧ ∀ x H', J.yld i H2 x H' → g x (wipe σ vs) H' fun σ2 H3 => wipe σ2 vs = wipe σ vs ∧
    te σ2 H3 fun y H4 => ∃ (k : Str) (l : List Str), y = .str k ∧ H4 D = some (SetSO P w D l) ∧ l.length + 1 < scanBound ∧ Nx (upd H4 D (SetSO P w D (insS k l))))
theorem pe_scS {elt tg iter : Expr} {scope : Scope} {own : List (Str × Nat)} {pos : Pos} {wi : TI} {g : TG} {te : TE} (hc : X.calm = true) (hN : X.N.Nodup) (hi : PI X tg iter wi) (ok : BlkOk X.N X.env.scope scope own)
    (hg : ∀ (st : Shared) (H0 : Hp) (C : Addr) (cl : List (Str × Addr)) (fp : List Addr), PG (Blk X scope st H0 C cl fp) tg g) (he : ∀ (st : Shared) (H0 : Hp) (C : Addr) (cl : List (Str × Addr)) (fp : List Addr), PE (Blk X scope st H0 C cl fp) elt te)
    (hs : ∀ x, foldedSetIterable iter X.env x = pure x := by intro _; rfl) : PE X (.SetComp elt [⟨tg, iter, [], 0⟩] scope pos) (tScS X.prog X.w wi g te (own.map (·.2))) := by
  refine ⟨fun pins s σ H Q I h => ?_⟩
  rw [PpSet.eval_SetComp]
  have fr : ∀ y ∈ scope.names, y.2 = .free → ∃ c, X.env.cells.lookup y.1 = some c := fun y hy e => (ok.free y hy e).elim (fun k => I.ok.has _ (.inl k)) fun k => I.ok.has _ (.inr k)
  refine wpAny_comprehension_free (use := none) rfl hs (closure_ok fr) ok.kind (fun y hy e => by rw [ok.uniq y hy, e]) (thn (hi.run pins s σ H _ I h) fun xv s1 hx => thn hx fun itv s2 h2 => ?_)
  obtain ⟨it, fp, tn, J, H2, e, I2, T, st2, f2, q⟩ := h2
  subst e
  refine PpSet.newSet_ok (newEnv_comp ?_)
  obtain ⟨D, eD⟩ : ∃ D, s2.heap.objs.size = D := ⟨_, rfl⟩
  have fD : H2 D = none := I2.hok.fresh (Nat.le_of_eq eD)
  obtain ⟨W, ⟨m0, w0⟩, turn⟩ := q D fD
  obtain ⟨s3, e3⟩ : ∃ s3 : Shared, { s2 with heap := s2.heap.push (newS X.w) } = s3 := ⟨_, rfl⟩
  have hp3 : s3.heap = s2.heap.push (newS X.w) := by rw [← e3]
  have I3 : Inv X pins σ (upd H2 D (SetSO X.prog X.w D [])) s3 := by
    rw [← e3]
    exact I2.laid (t' := s2.toks) (fun b o z => Heap.get?_push_of_some _ z) (Nat.le_of_eq eD) (by rw [← eD]; exact setSO_ok setS_fresh)
  have old : ∀ b ∈ fp, b < s2.heap.objs.size := fun b hb => let ⟨o, z, _⟩ := T.obj _ _ st2 b hb; Heap.lt_size z
  have f3 : ∀ b ∈ fp, FpOk X pins (upd H2 D (SetSO X.prog X.w D [])) b ∧ b < s3.heap.objs.size := fun b hb =>
    ⟨⟨by rw [upd_ne (by rw [← eD]; exact Nat.ne_of_lt (old b hb))]; exact (f2 b hb).1, (f2 b hb).2⟩, by rw [hp3, Heap.size_push]; exact Nat.lt_succ_of_lt (old b hb)⟩
  have st3 : tn 0 s3.heap := T.keep _ _ _ st2 fun b _ o z => by rw [hp3]; exact Heap.get?_push_of_some _ z
  have I4 := block_start I3 ok hN f3
  obtain ⟨H3, eH⟩ : ∃ H3, upd H2 D (SetSO X.prog X.w D []) = H3 := ⟨_, rfl⟩
  obtain ⟨cl, ecl⟩ : ∃ cl, cellsFrom (s3.heap.objs.size + 1) scope.names (cloFrom X.env.cells scope.names []) = cl := ⟨_, rfl⟩
  have goal : codeAny (model X.prog X.w) X.A (.compStart (.SetComp elt [⟨tg, iter, [], 0⟩] scope pos) 0 (.ref it) (.ref D) (compEnvC scope cl s3.heap.objs.size X.env)) (compPost (model X.prog X.w) X.A X.xe none (EP X pins σ Q) (.ref D) s3.heap.objs.size) { s3 with heap := pushCells (s3.heap.push { cls := .type "dict", data := .dict #[] }) scope.names } := ?_
  · subst eD e3 ecl; exact goal
  rw [eH] at I3 I4 w0 f3
  rw [ecl] at I4
  have pg := hg s3 H3 s3.heap.objs.size cl fp
  have pe := he s3 H3 s3.heap.objs.size cl fp
  have nf : ∀ b ∈ fp, H3 b = none := fun b hb => (f3 b hb).1.1
  obtain ⟨ce, ece⟩ : ∃ ce, compEnvC scope cl s3.heap.objs.size X.env = ce := ⟨_, rfl⟩
  have cL : ce.locals = s3.heap.objs.size := by subst ece; rfl
  obtain ⟨s4, e4⟩ : ∃ s4 : Shared, { s3 with heap := pushCells (s3.heap.push { cls := .type "dict", data := .dict #[] }) scope.names } = s4 := ⟨_, rfl⟩
  have st4 : tn 0 s4.heap := T.keep _ _ _ st3 fun b _ o z => by rw [← e4]; exact pushCells_keeps _ _ _ _ (Heap.get?_push_of_some _ z)
  change PG (X.blk s3 H3 scope (compEnvC scope cl s3.heap.objs.size X.env) fp) tg g at pg
  change PE (X.blk s3 H3 scope (compEnvC scope cl s3.heap.objs.size X.env) fp) elt te at pe
  rw [ece] at pg pe I4 ⊢
  rw [e4] at I4 ⊢
  have fpk : ∀ {σ' : L2.St} {H' : Hp} {s' : Shared}, Inv (X.blk s3 H3 scope ce fp) [] σ' H' s' → (∀ b ∈ fp, H' b = none) → ∀ b ∈ fp, FpOk (X.blk s3 H3 scope ce fp) [] H' b := fun {σ' H' s'} J' hn b hb =>
    ⟨hn b hb, (J'.ok.exf b hb).1, J'.ok.exfs b hb, .inl hb, fun x c z => (J'.ok.exf b hb).2 x c z, fun p hp => absurd (show p ∈ ([] : List (Addr × Obj)) ++ [] from hp) (by simp)⟩
  refine PpSet.codeAny_compStart_set ?loop (T.self X.A 0 _ _ _ st4 ?loop)
  refine PpSet.compLoopS_any (fun n s' => ∃ i H', Inv (X.blk s3 H3 scope ce fp) [] (wipe σ (own.map (·.2))) H' s' ∧ tn i s'.heap ∧ (∀ b ∈ fp, H' b = none) ∧ W i n H') (fun n s5 ⟨i, H5, I5, st5, n5, w5⟩ => ?_) m0 ⟨0, H3, I4, st4, nf, w0⟩
  rcases turn i n H5 w5 with ⟨stop, qq⟩ | ⟨go, Nx, hNx, step⟩
  · refine thnF (T.done (X.blk s3 H3 scope ce fp) rfl rfl rfl hc i [] s5 _ H5 (fun _ _ => False) I5 (fpk I5 n5) st5 stop) fun r s6 ⟨hr, I6⟩ => ?_
    subst hr
    have I7 : Inv X pins σ H5 s6 := I3.call' (ch := fp) I6.os I6.base I6.hok I6.bare fun b hb => let y := (f3 b hb).1.2; ⟨y.2.2.1, y.1, y.2.2.2.1, y.2.2.2.2⟩
    have nC : H5 s3.heap.objs.size = none := cL ▸ (show H5 ce.locals = none from I6.free)
    obtain ⟨m, hn, _⟩ := I6.loc
    have hn2 : s6.heap.Ns s3.heap.objs.size m := cL ▸ (show s6.heap.Ns ce.locals m from hn)
    obtain ⟨y0, y1, y2, y3, y4, y5⟩ := I3.fpOk (Nat.le_refl _) nC
    exact ⟨m, hn2, fun g1 sb => ⟨.ref D, H5, I7.turned (t' := s6.toks) (fun b o hb z => (sb.2 b hb).trans z) y0 y1 y3 y4 y5, rfl, qq⟩⟩
  · refine thnF (T.item (X.blk s3 H3 scope ce fp) rfl rfl rfl hc i [] s5 _ H5 (fun _ _ => False) I5 (fpk I5 n5) st5 go) fun r s6 ⟨u, hr, h6⟩ => ?_
    subst hr
    refine thnF h6 fun _ s7 ⟨x, H7, I7, r7, y7, st7, n7⟩ => ?_
    refine thnF (pg.run _ s7 _ H7 x u _ (I7.pinned (fpk I7 n7) (T.obj _ _ st7)) r7 (step x H7 y7)) fun _ s8 ⟨σ8, H8, I8, hw8, q8⟩ => ?_
    show wpAny _ _ (pure true) _ _ _
    refine wpAny_pure ?_
    rw [if_pos rfl]
    refine thnF (pe.run _ s8 σ8 H8 _ I8 q8) fun z s10 ⟨yv, H10, I10, r10, k, l, ey, hD10, hz10, nx⟩ => ?_
    subst ey
    obtain ⟨tk, rfl⟩ := r10
    refine addSO (X := X.blk s3 H3 scope ce fp) I10 hD10 hz10 fun s11 I11 => ?_
    obtain ⟨m', hm, w'⟩ := hNx _ nx
    have pn : ∀ b ∈ fp, ∀ o, s7.heap.get? b = some o → s11.heap.get? b = some o ∧ (upd H10 D (SetSO X.prog X.w D (insS k l))) b = none := fun b hb o z => let y := I11.pin (b, o) (List.mem_append_right _ (List.mem_append_right _ (mem_pinsAt hb z))); ⟨y.1, y.2.1⟩
    refine ⟨m', hm, i + 1, _, (I11.unpinned (pins := [])).weak (by rw [← hw8, wipe_length]) (fun j v z => ?_), T.keep _ _ _ st7 fun b hb o z => (pn b hb o z).1, fun b hb => ?_, w'⟩
    · rw [← hw8] at z
      exact (wipe_some z).1
    · obtain ⟨o, z, _⟩ := T.obj _ _ st7 b hb
      exact (pn b hb o z).2
/-- sorted(s) -/
def rSortedSS (P : Program) (w : World) : List V → Hp → VK → Prop := fun vs H Q => ∃ (a : Addr) (l : List Str), vs = [V.ref a] ∧ H a = some (SetSO P w a l) ∧ l.length < 64 ∧ ∀ (ys : List Str) (p : Addr), ys.Perm l → sortedS ys = true → H p = none → Q (.ref p) (upd H p (.lst (ys.map V.str)))
theorem cr_sortedSS (hc : X.calm = true) : CallR X (.builtin "sorted") (rSortedSS X.prog X.w) := fun pins s σ H vs us Q I r ⟨a, l, ev, ha, h64, q⟩ => by
  subst ev
  rw [Vals.ref1 r]
  refine setS_sorted (setSO_at I ha) (I.ok.hd hc) h64 fun s' p out c ys k g o hp hgt hS pm so => ?_
  have zl : (ys.map V.str).length ≤ sizeLine := by rw [List.length_map, pm.length_eq, sizeLine_eq]; omega
  have fp : H p = none := I.hok.fresh hp
  have J : Inv X pins σ (upd H p (.lst (ys.map V.str))) { s with heap := s'.heap, gens := s'.gens, drawn := s'.drawn, toks := s'.toks } :=
    I.call (ch := []) (Un.laid k hp fp) (I.hok.laid k hp ⟨zl, out.toList, c, vals_of_strs hS, hgt⟩) (by rw [g]; exact I.bare) fun _ z => nomatch z
  have es : s' = { s with heap := s'.heap, gens := s'.gens, drawn := s'.drawn, toks := s'.toks } := by
    cases s'; cases s; cases o; rfl
  rw [es]
  exact ⟨.ref p, _, J, rfl, q ys p pm so fp⟩
end
end TL
/-! set(xs) of a list of texts -/
namespace TL
open PySem PySem.Spec PyProof.Rows L2
section
variable {P : Program} {w : World} {A : Around} {R : Result → Shared → Prop} {I : Addr} {fp wr : List Addr} {G : Array GenState → Array GenState → Prop} {n : Nat} {Pv : Nat → Value → Prop} {St : Nat → Shared → Prop}
theorem loopSet (W : WalksS P w A.in1 I fp wr G n Pv St) (S : Addr) (nS : S ∉ fp) (xs : List Str) (lx : xs.length = n) (hz : n < scanBound) (hv : ∀ i v, Pv i v → ∃ x t, xs[i]? = some x ∧ v = .str x t) :
    ∀ (k i : Nat) (s : Shared) (acc : List Str), n - i = k → i ≤ n → St i s → SetS P w s.heap S acc → acc.length ≤ i → (∀ x, x ∈ acc ↔ x ∈ xs.take i) →
      (∀ s' acc', Moved (S :: wr) G s s' → SetS P w s'.heap S acc' → acc'.length ≤ n → (∀ x, x ∈ acc' ↔ x ∈ xs) → R (.ok (.ret .none)) s') → codeAny (model P w) A (.builtin "set.update.loop" ⟨[.ref S, .ref I], []⟩) R s
  | 0, i, s, acc, ek, hi, hst, hS, la, hm, done => by
    have ei : i = n := by omega
    subst ei
    refine codeAny_builtin PyProof.Rows.F.entry_set_update_loop ?_
    rw [Around.under_plainId PyProof.Rows.F.plain_set_update_loop _]
    show wpAny _ A.in1 (pyNext (.ref I) >>= _) _ _ s
    refine wpAny_bind (W.done s _ _ hst fun s' mv => wpAny_pure (done s' acc (mv.mono fun b hb => List.mem_cons_of_mem _ hb) (hS.at fun o e => mv.heap S o (fun z => nS (W.sub _ z)) e) la fun x => ?_))
    rw [hm x, ← lx, List.take_length]
  | k + 1, i, s, acc, ek, hi, hst, hS, la, hm, done => by
    have lt : i < n := by omega
    refine codeAny_builtin PyProof.Rows.F.entry_set_update_loop ?_
    rw [Around.under_plainId PyProof.Rows.F.plain_set_update_loop _]
    show wpAny _ A.in1 (pyNext (.ref I) >>= _) _ _ s
    refine wpAny_bind (W.item i s _ _ lt hst fun v s' hP hst' mv => ?_)
    obtain ⟨x, t, hx, rfl⟩ := hv i v hP
    have S1 : SetS P w s'.heap S acc := hS.at fun o e => mv.heap S o (fun z => nS (W.sub _ z)) e
    show wpAny _ A.in1 (holding [Value.str x t] (setAdd S (.str x t)) >>= _) _ _ s'
    refine wpAny_bind (wpAny_holding (setS_addV S1 (by omega) fun b g sb S2 => wpAny_pure ⟨plainId_quiet PyProof.Rows.F.plain_set_update_loop _, ?_⟩))
    refine loopSet W S nS xs lx hz hv k (i + 1) _ (insS x acc) (by omega) lt (W.frame _ s' _ _ hst' (Nat.le_succ _) fun b hb o e => (sb.2 b fun z => nS (z ▸ hb)).trans e) S2 (Nat.le_trans insS_len (Nat.succ_le_succ la)) (fun y => ?_) fun s'' acc' mv' S3 la' hm' => done s'' acc' ?_ S3 la' hm'
    · rw [insS_mem, hm y, List.take_succ, hx]
      show _ ↔ y ∈ xs.take i ++ [x]
      rw [List.mem_append, List.mem_singleton]
      exact Or.comm
    · exact Moved.trans W.gtrans ((mv.mono fun b hb => List.mem_cons_of_mem _ hb).then_heap (Nat.le_succ _) fun b o hb e => (sb.2 b fun z => hb (z ▸ List.mem_cons_self)).trans e) mv'
end
section
variable {P : Program} {w : World} {A : Around} {E : Value → Shared → Prop} {s : Shared}
theorem new_led (a : Value) {Q₁ : Value → Shared → Prop} (h : Q₁ (.ref s.heap.objs.size) { s with heap := s.heap.push (newS w) }) : codeAny (model P w) A (.call (.builtin "set.__new__") ⟨[.type "set", a], []⟩) (wants Q₁ E) s := by
  refine codeAny_of_tree (show wpAny _ A.in1 (do checkBuiltinCall "set.__new__" ⟨[.type "set", a], []⟩; again (.builtin "set.__new__" ⟨[.type "set", a], []⟩)) _ _ s from ?_)
  refine wpAny_bind (wpAny_of_eq (F.newCall_set_1 a) (wpAny_pure ⟨plainId_quiet F.plain_set_new _, codeAny_builtin F.entry_set_new ?_⟩))
  rw [Around.under_plainId F.plain_set_new _]
  unfold Builtin.«set.__new__» Builtin.Frozenset.newClass
  have sub := sub_set_self
  obtain ⟨hp, g, d, tk, os⟩ := s
  dsimp only
  wp_walk
  refine wpAny_askSetting (wpAny_pure ?_)
  dsimp only
  simp only [newObj]
  exact wpAny_bind (wpAny_alloc (wpAny_pure (wpAny_pure h)))
/-- set(xs), xs a list of texts -/
theorem setS_list {l : Addr} {items : Array Value} {xs : List Str} {Q : Value → Shared → Prop} (hh : A.handled = none) (hl : s.heap.IsList l items) (hi : StrsAre items.toList xs) (hz : xs.length < scanBound)
    (q : ∀ (g : Heap) (tk : Nat) (acc : List Str), SetS P w g s.heap.objs.size acc → acc.length ≤ xs.length → (∀ x, x ∈ acc ↔ x ∈ xs) → (∀ b o, b < s.heap.objs.size → s.heap.get? b = some o → g.get? b = some o) → Q (.ref s.heap.objs.size) { s with heap := g, toks := tk }) :
    wpAny (model P w) A (call (.type "set") [.ref l]) Q E s := by
  obtain ⟨c, tl, hmro⟩ := PySem.F.called_set.mro
  have made := PySem.F.called_set.made
  have subs := PySem.F.called_set.sub
  refine wpAny_call (codeAny_of_tree (show wpAny _ _ (callAny (.type "set") _) _ _ _ from ?_))
  refine wpAny_pure ⟨Code.quiet_builtin _ (by decide +kernel), codeAny_builtin PySem.F.entry_type_call ?_⟩
  rw [Around.under_plain (weight_type_call_type "set" [.ref l] []) rfl]
  have nt := PySem.F.called_set.notType
  have cc := PySem.F.called_set.canCreate
  have tc := PySem.F.typeCall_set_1 (.ref l)
  repeat (any_goals (first | assumption | wp_step))
  refine codeAny_mono (new_led (w := w) (.ref l) (E := E) (Q₁ := fun obj s₁ => obj = .ref s.heap.objs.size ∧ s₁ = { s with heap := s.heap.push (newS w) }) ⟨rfl, rfl⟩) fun r s₁ hr => ?_
  cases r with
  | error e => exact hr
  | ok fl =>
    cases fl with
    | ret obj =>
      obtain ⟨rfl, rfl⟩ := hr
      have oS : (s.heap.push (newS w)).get? s.heap.objs.size = some (newS w) := Heap.get?_push_size _ rfl
      have tS : Shared.TypeIs { s with heap := s.heap.push (newS w) } (.ref s.heap.objs.size) "set" := ⟨_, oS, rfl⟩
      have li := PySem.F.called_set.init.lookup
      have bi := PySem.F.called_set.init.bind (.ref s.heap.objs.size)
      repeat (any_goals (first | assumption | wp_step))
      refine codeAny_mono (codeAny_call_builtin (R := wants (fun r s₂ => r = .none ∧ ∃ g tk acc, s₂ = { s with heap := g, toks := tk } ∧ SetS P w g s.heap.objs.size acc ∧ acc.length ≤ xs.length ∧ (∀ x, x ∈ acc ↔ x ∈ xs) ∧ ∀ b o, b < s.heap.objs.size → s.heap.get? b = some o → g.get? b = some o) E) PySem.F.called_set.init.plain PySem.F.entry_set_init (check_set_init_1 tS ?_)) fun r2 s2 h2 => ?_
      · obtain ⟨⟨ocls, odict, odata, oslots⟩, ol, ocl, nl, od⟩ := hl
        simp only at ocl od
        subst ocl; subst od
        have ol' : (s.heap.push (newS w)).get? l = some { cls := .type "list", dict := odict, data := .seq items nl, slots := oslots } := Heap.get?_push_of_some _ ol
        have z1 := PySem.F.sub_list_set
        have z2 := PySem.F.sub_list_frozenset
        have z3 : (Value.type "list" == Value.type "dict") = false := by decide
        have il : (s.heap.push (newS w)).IsList l items := ⟨_, ol', rfl, nl, rfl⟩
        unfold Builtin.«set.__init__» noKeywords Builtin.Frozenset.updateFrom
        generalize hPI : pyIter = PI
        wp_walk
        subst hPI
        refine wpAny_pyIter_list il (wpAny_bind (wpAny_runValue ?_))
        have ls : l < s.heap.objs.size := Heap.lt_size ol
        have h3 : A.in1.in1.in1.handled = none := by simp [hh]
        have ne : l ≠ (s.heap.push (newS w)).objs.size := by rw [Heap.size_push]; exact Nat.ne_of_lt (Nat.lt_succ_of_lt ls)
        have nS : s.heap.objs.size ∉ [(s.heap.push (newS w)).objs.size, l] := by
          rw [Heap.size_push]
          simp only [List.mem_cons, List.not_mem_nil, or_false, not_or]
          exact ⟨Nat.ne_of_lt (Nat.lt_succ_self _), Nat.ne_of_gt ls⟩
        have lx : xs.length = items.size := by rw [← StrsAre.len_eq hi, Array.length_toList]
        have vv : ∀ (i : Nat) (v : Value), items[i]? = some v → ∃ x t, xs[i]? = some x ∧ v = .str x t := fun i v hv => by
          have hv' : items.toList[i]? = some v := by rw [Array.getElem?_toList]; exact hv
          obtain ⟨t, ht⟩ := SS.strs_at hi i v hv'
          have lt : i < xs.length := by
            rw [← StrsAre.len_eq hi]
            exact (List.getElem?_eq_some_iff.mp hv').1
          exact ⟨xs[i], t, List.getElem?_eq_getElem lt, by rw [ht]; simp [List.getD, lt]⟩
        refine loopSet ((Walks.list h3 _ l ne items).toS) s.heap.objs.size nS xs lx (by rw [← lx]; exact hz) vv (items.size - 0) 0 _ [] rfl (Nat.zero_le _) ⟨⟨_, Heap.get?_push_size _ rfl, rfl, rfl⟩, il.push _⟩ (setS_fresh.at fun o e => Heap.get?_push_of_some _ e) (Nat.le_refl _) (fun x => by simp) fun s' acc mv S3 la hm => ?_
        obtain ⟨g, gs, dr, tk, os⟩ := s'
        have eg : gs = s.gens := mv.gens
        have ed : dr = s.drawn := mv.drawn
        have eo : os = s.os := mv.os
        subst eg; subst ed; subst eo
        show wpAny _ _ _ _ _ _
        refine wpAny_pure (show wpAny _ _ (ret Value.none) _ _ _ from wpAny_pure ⟨rfl, g, tk, acc, rfl, S3, by rw [lx]; exact la, hm, fun b o hb e => ?_⟩)
        refine mv.heap b o ?_ (Heap.get?_push_of_some _ (Heap.get?_push_of_some _ e))
        simp only [List.mem_cons, List.not_mem_nil, or_false, not_or]
        exact ⟨Nat.ne_of_lt hb, by rw [Heap.size_push]; exact Nat.ne_of_lt (Nat.lt_succ_of_lt hb)⟩
      · cases r2 with
        | error e => exact h2
        | ok f2 =>
          cases f2 with
          | ret r =>
            obtain ⟨rfl, g, tk, acc, rfl, S3, la, hm, kp⟩ := h2
            repeat (any_goals (first | assumption | wp_step))
            exact q _ _ acc S3 la hm kp
          | _ => exact h2.elim
    | _ => exact hr.elim
end
section
variable {X : Cx}
/-- set(xs) -/
def rSetL (K : PySem.W.Frag) (P : Program) (w : World) : List V → Hp → VK → Prop := fun vs H Q => ∃ (a : Addr) (xs : List Str), vs = [V.ref a] ∧ SqL K H a (xs.map V.str) ∧ xs.length < scanBound ∧
  ∀ (p : Addr) (acc : List Str), acc.Nodup → acc.length ≤ xs.length → (∀ x, x ∈ acc ↔ x ∈ xs) → H p = none → Q (.ref p) (upd H p (SetSO P w p acc))
theorem cr_setL (hc : X.calm = true) : CallR X (.type "set") (rSetL X.K X.prog X.w) := fun pins s σ H vs us Q I r ⟨a, xs, ev, ha, hz, q⟩ => by
  subst ev
  rw [Vals.ref1 r]
  obtain ⟨its, rv, hl, _⟩ := I.list ha
  refine setS_list (I.ok.hd hc) hl.isList (by simpa using rv.strs) hz fun g tk acc R la hm kp => ?_
  have fp : H s.heap.objs.size = none := I.hok.fresh (Nat.le_refl _)
  have nd : acc.Nodup := let ⟨_, _, _, n, _⟩ := R; n
  exact ⟨.ref s.heap.objs.size, _, I.laid (t' := tk) (fun b o e => kp b o (Heap.lt_size e) e) (Nat.le_refl _) (setSO_ok R), rfl, q _ acc nd la hm fp⟩
end
end TL
/-! texts in ascending order, each once -/
namespace TL
open PySem PySem.Spec PyProof.Rows L2
def ltT (a b : Str) : Prop := a.cps.toList < b.cps.toList
instance (a b : Str) : Decidable (ltT a b) := inferInstanceAs (Decidable (a.cps.toList < b.cps.toList))
theorem ltT_irr (a : Str) : ¬ ltT a a := List.lt_irrefl _
theorem ltT_trans {a b c : Str} (h : ltT a b) (k : ltT b c) : ltT a c := List.lt_trans h k
theorem str_of_cps {a b : Str} (h : a.cps.toList = b.cps.toList) : a = b := by
  cases a; cases b
  congr
  exact Array.toList_inj.mp h
theorem ltT_tri {a b : Str} (h : ¬ ltT a b) (k : ¬ ltT b a) : a = b := str_of_cps (List.le_antisymm (List.not_lt.mp k) (List.not_lt.mp h))
abbrev Asc (l : List Str) : Prop := l.Pairwise ltT
theorem asc_eq : ∀ {a b : List Str}, Asc a → Asc b → (∀ x, x ∈ a ↔ x ∈ b) → a = b
  | [], [], _, _, _ => rfl
  | [], y :: b, _, _, h => by have := (h y).mpr List.mem_cons_self; cases this
  | x :: a, [], _, _, h => by have := (h x).mp List.mem_cons_self; cases this
  | x :: a, y :: b, ha, hb, h => by
    obtain ⟨ha1, ha2⟩ := List.pairwise_cons.mp ha
    obtain ⟨hb1, hb2⟩ := List.pairwise_cons.mp hb
    have exy : x = y := by
      rcases List.mem_cons.mp ((h x).mp List.mem_cons_self) with e | e
      · exact e
      · rcases List.mem_cons.mp ((h y).mpr List.mem_cons_self) with e2 | e2
        · exact e2.symm
        · exact (ltT_irr _ (ltT_trans (ha1 y e2) (hb1 x e))).elim
    subst exy
    refine congrArg _ (asc_eq ha2 hb2 fun z => ⟨fun hz => ?_, fun hz => ?_⟩)
    · rcases List.mem_cons.mp ((h z).mp (List.mem_cons_of_mem _ hz)) with e | e
      · subst e; exact (ltT_irr _ (ha1 _ hz)).elim
      · exact e
    · rcases List.mem_cons.mp ((h z).mpr (List.mem_cons_of_mem _ hz)) with e | e
      · subst e; exact (ltT_irr _ (hb1 _ hz)).elim
      · exact e
/-- what sorted says -/
theorem asc_rising : ∀ {p : Str} {l : List Str}, risingS p l = true → (p :: l).Nodup → Asc (p :: l)
  | p, [], _, _ => List.pairwise_cons.mpr ⟨fun _ h => (nomatch h), List.Pairwise.nil⟩
  | p, x :: r, h, nd => by
    have h' : (!ltCps x.cps.toList p.cps.toList && risingS x r) = true := h
    rw [Bool.and_eq_true, Bool.not_eq_true', ltCps_eq, decide_eq_false_iff_not] at h'
    have nd2 := List.nodup_cons.mp nd
    have ih := asc_rising h'.2 nd2.2
    have hpx : ltT p x := Classical.byContradiction fun z => nd2.1 (by rw [ltT_tri (a := p) (b := x) z h'.1]; exact List.mem_cons_self)
    refine List.pairwise_cons.mpr ⟨fun y hy => ?_, ih⟩
    rcases List.mem_cons.mp hy with e | e
    · rw [e]; exact hpx
    · exact ltT_trans hpx ((List.pairwise_cons.mp ih).1 y e)
theorem asc_sorted {l : List Str} (h : sortedS l = true) (nd : l.Nodup) : Asc l := by
  cases l with
  | nil => exact List.Pairwise.nil
  | cons p r => exact asc_rising h nd
theorem Asc.nodup {l : List Str} (h : Asc l) : l.Nodup := List.Pairwise.imp (R := ltT) (S := (· ≠ ·)) (fun {a b} k e => ltT_irr a (by rw [← e] at k; exact k)) h
def insT (a : Str) : List Str → List Str
  | [] => [a]
  | b :: l => if a = b then b :: l else if ltT a b then a :: b :: l else b :: insT a l
theorem insT_mem {a x : Str} : ∀ {l : List Str}, x ∈ insT a l ↔ x = a ∨ x ∈ l
  | [] => by simp [insT]
  | b :: l => by
    unfold insT
    by_cases e : a = b
    · rw [if_pos e]; subst e
      exact ⟨.inr, fun h => h.elim (fun z => z ▸ List.mem_cons_self) id⟩
    · rw [if_neg e]
      by_cases k : ltT a b
      · rw [if_pos k, List.mem_cons]
      · rw [if_neg k, List.mem_cons, insT_mem (l := l), List.mem_cons]
        exact ⟨fun h => h.elim (fun z => .inr (.inl z)) fun z => z.elim .inl fun z => .inr (.inr z), fun h => h.elim (fun z => .inr (.inl z)) fun z => z.elim .inl fun z => .inr (.inr z)⟩
theorem insT_asc {a : Str} : ∀ {l : List Str}, Asc l → Asc (insT a l)
  | [], _ => List.pairwise_cons.mpr ⟨fun _ h => (nomatch h), List.Pairwise.nil⟩
  | b :: l, h => by
    obtain ⟨h1, h2⟩ := List.pairwise_cons.mp h
    unfold insT
    by_cases e : a = b
    · rw [if_pos e]; exact h
    · rw [if_neg e]
      by_cases k : ltT a b
      · rw [if_pos k]
        refine List.pairwise_cons.mpr ⟨fun y hy => ?_, h⟩
        rcases List.mem_cons.mp hy with z | z
        · rw [z]; exact k
        · exact ltT_trans k (h1 y z)
      · rw [if_neg k]
        refine List.pairwise_cons.mpr ⟨fun y hy => ?_, insT_asc h2⟩
        rcases insT_mem.mp hy with z | z
        · rw [z]; exact Classical.byContradiction fun q => e (ltT_tri k q)
        · exact h1 y z
/-- the texts in ascending order, each once -/
def ordS (xs : List Str) : List Str := xs.foldr insT []
theorem ordS_asc : ∀ xs : List Str, Asc (ordS xs)
  | [] => List.Pairwise.nil
  | x :: xs => insT_asc (ordS_asc xs)
theorem ordS_mem {x : Str} : ∀ {xs : List Str}, x ∈ ordS xs ↔ x ∈ xs
  | [] => Iff.rfl
  | y :: xs => by
    show x ∈ insT y (ordS xs) ↔ _
    rw [insT_mem, ordS_mem (xs := xs), List.mem_cons]
theorem ordS_nd (xs : List Str) : (ordS xs).Nodup := (ordS_asc xs).nodup
theorem ordS_eq {xs ys : List Str} (h : sortedS ys = true) (nd : ys.Nodup) (hm : ∀ x, x ∈ ys ↔ x ∈ xs) : ys = ordS xs := asc_eq (asc_sorted h nd) (ordS_asc xs) fun x => (hm x).trans ordS_mem.symm
theorem ordS_of_asc {xs : List Str} (h : Asc xs) : ordS xs = xs := asc_eq (ordS_asc xs) h fun _ => ordS_mem
theorem insT_len {a : Str} : ∀ {l : List Str}, (insT a l).length ≤ l.length + 1
  | [] => Nat.le_refl _
  | b :: l => by
    unfold insT
    have ih := insT_len (a := a) (l := l)
    split
    · simp
    · split
      · simp
      · simp only [List.length_cons]; omega
theorem ordS_len : ∀ xs : List Str, (ordS xs).length ≤ xs.length
  | [] => Nat.le_refl _
  | x :: xs => Nat.le_trans insT_len (Nat.succ_le_succ (ordS_len xs))
end TL
/-! sorted({e for x in xs}), sorted(set(xs)), over trees -/
namespace TL
open PySem PySem.Spec PyProof.Rows L2
theorem bt_sorted : bootBuiltins ("sorted" : Str) = some (.builtin "sorted") := by kernel_rfl
theorem bt_set : bootBuiltins ("set" : Str) = some (.type "set") := by kernel_rfl
section
variable {X : Cx} {N : List Str} {sc : Scope} {e elt iter : Expr} {δ : Ds} {A : AH} {pos p1 p2 p3 : Pos}
/-- the end: the set's texts in order -/
theorem sorted_end {H H2 : Hp} {A1 : AH} {Q : TQ} {D : Addr} {l xs : List Str} (k1 : Kp X.K H H2) (hr : HR X.K A1 H2) (hD : H2 D = some (SetSO X.prog X.w D l)) (hl : l.length < 64) (nd : l.Nodup) (hm : ∀ x, x ∈ l ↔ x ∈ xs)
    (q : ∀ p, A1 p = none → Q (.ref p) (updA A1 p (.prim (.lst ((ordS xs).map .str))))) : rSortedSS X.prog X.w [V.ref D] H2 (LQ X.K H Q) := by
  refine ⟨D, l, rfl, hD, hl, fun zs p pm so fp => ?_⟩
  have ez : zs = ordS xs := ordS_eq so (pm.nodup_iff.mpr nd) fun x => pm.mem_iff.trans (hm x)
  subst ez
  have ex := ex_upd (o := .lst ((ordS xs).map V.str)) fp
  have kk : Kp X.K H2 (upd H2 p (.lst ((ordS xs).map V.str))) := kp_ex ex
  refine ⟨.ref p, _, k1.trans kk, .ref, hr.new (o := .lst ((ordS xs).map .str)) fp kk ex ⟨_, upd_same, ?_⟩, q p (hr.free fp)⟩
  exact Paired.of_at (by rw [List.length_map, List.length_map]) fun i x y hx hy => by
    rw [List.getElem?_map] at hx hy
    cases z : (ordS xs)[i]? with
    | none => rw [z] at hx; cases hx
    | some u => rw [z] at hx hy; cases hx; cases hy; exact .str
/-- sorted({e for x in xs}) -/
theorem BC.esortSC {α : Type} {scope : Scope} {own : List (Str × Nat)} {s : Str} {j : Nat} {pt : Pos} {ys : List α} {en : α → TL.D} (g : α → Str) (B : SC X N sc) (hg : sc.names.lookup ("sorted" : Str) = some .globalImplicit) (hmg : X.mg "sorted" = none) (ok : blkC N sc scope own = true) (hj : N[j]? = some s) (hl : scope.names.lookup s = some .local) (hv : j ∈ own.map (·.2))
    (hi : EvI X (.Name s pt) iter δ A (ys.map en)) (hz : ys.length < 64) (he : ∀ y ∈ ys, ∀ st H0 C cl fp, Ev (Blk X scope st H0 C cl fp) elt ((wipeD δ (own.map (·.2))).set j (some (en y))) A (.str (g y)))
    (hs : ∀ x, foldedSetIterable iter X.env x = pure x := by intro _; rfl) (hst : starEach [.SetComp elt [⟨.Name s pt, iter, [], 0⟩] scope pos] X.env = (false, eval (.SetComp elt [⟨.Name s pt, iter, [], 0⟩] scope pos) X.env) :: starEach [] X.env := by rfl) :
    EvN X (.Call (.Name "sorted" p1) [.SetComp elt [⟨.Name s pt, iter, [], 0⟩] scope pos] [] p2) δ A (.lst ((ordS (ys.map g)).map .str)) := fun A1 k Q q σ H sl r => by
  refine runE.of (pe_callB (cr_sortedSS B.calm) (B.gl hg) hmg bt_sorted (pa_cons (pe_scS (own := own) (wi := runI X (.Name s pt) iter) (g := gName j) (te := famE X scope elt) B.calm B.nd pi_run (BC.lcB B ok) (BC.lcG B hj hl) BC.lcE hs) pa_nil hst) (he := hst)) ?_
  show tScS X.prog X.w (runI X (.Name s pt) iter) (gName j) (famE X scope elt) (own.map (·.2)) σ H fun v H1 => rSortedSS X.prog X.w [v] H1 (LQ X.K H Q)
  refine hi A1 k (fun n f G A2 => A2 = A1 ∧ n = ys.length ∧ (∀ A3, TL.Sub A1 A3 → G A3) ∧ ∀ i, i < ys.length → ∃ y, ys[i]? = some y ∧ f i = en y) (fun G f hG hf => ⟨rfl, by rw [List.length_map], hG, fun i hi => ?_⟩) σ H sl r _ fun J H1 n f G A2 YG k1 hr1 wk hYG ⟨e1, e2, hG, hf⟩ => fun D hD => ?_
  · have z := hf i (by rw [List.length_map]; exact hi)
    rw [List.getElem?_map, List.getElem?_eq_getElem hi] at z
    exact ⟨_, List.getElem?_eq_getElem hi, (Option.some.inj z).symm⟩
  · have fA : A1 D = none := by rw [← e1]; exact hr1.free hD
    rw [e1] at hr1
    have ex := ex_upd (o := SetSO X.prog X.w D []) hD
    have kk : Kp X.K H1 (upd H1 D (SetSO X.prog X.w D [])) := kp_ex ex
    have sbA : ∀ o, TL.Sub A1 (updA A1 D o) := fun o => Sub.upd (Sub.refl A1) fA
    refine ⟨fun i m H' => m = n - i ∧ i ≤ n ∧ ∃ l : List Str, Kp X.K H1 H' ∧ HR X.K (updA A1 D (.prim (.raw (SetSO X.prog X.w D l)))) H' ∧ l.length ≤ i ∧ l.Nodup ∧ ∀ x, x ∈ l ↔ x ∈ (ys.take i).map g, ⟨n, by simp, Nat.zero_le _, [], kk, hr1.new (o := .raw (SetSO X.prog X.w D [])) hD kk ex upd_same, Nat.le_refl _, List.nodup_nil, by simp⟩, ?_⟩
    rintro i m H2 ⟨rfl, hin, l, k2, hr2, hl2, nd, hm⟩
    have gg := hYG _ H2 k2 hr2 (hG _ (sbA _))
    by_cases lt : i < n
    · refine .inr ⟨wk.goes i H2 lt gg, fun H' => ∃ l : List Str, Kp X.K H1 H' ∧ HR X.K (updA A1 D (.prim (.raw (SetSO X.prog X.w D l)))) H' ∧ l.length ≤ i + 1 ∧ l.Nodup ∧ ∀ x, x ∈ l ↔ x ∈ (ys.take (i + 1)).map g, fun H' p' => ⟨n - (i + 1), by omega, rfl, lt, p'⟩, fun v H3 y => ⟨wipe_set hv, ?_⟩⟩
      obtain ⟨ky, ay, rp⟩ := wk.yields i H2 v H3 lt gg y
      obtain ⟨u, hu, efu⟩ := hf i (by rw [← e2]; exact lt)
      rw [efu] at rp
      have hr3 := ay _ hr2
      have k3 := k2.trans ky
      have sl3 : Sl X.K H3 ((wipe σ (own.map (·.2))).set j (some v)) ((wipeD δ (own.map (·.2))).set j (some (en u))) := ((sl_wipe sl _).keep (k1.trans k3)).set j rp
      refine fun st H0 C cl fp => runE.mono (((he u (List.mem_of_getElem? hu) st H0 C cl fp).sub (k.trans (sbA _))).wp (Q := fun d A4 => d = .str (g u) ∧ A4 = updA A1 D (.prim (.raw (SetSO X.prog X.w D l)))) ⟨rfl, rfl⟩ _ H3 sl3 hr3) fun vd H4 ⟨d, A4, k4, rd, hr4, ed, eA⟩ => ?_
      subst ed eA
      cases rd
      have oD : H4 D = some (SetSO X.prog X.w D l) := hr4.at_ updA_same
      have ll : l.length + 1 < scanBound := by
        have : (64 : Nat) + 64 < scanBound := by decide
        omega
      refine ⟨g u, l, rfl, oD, ll, insS (g u) l, ?_⟩
      obtain ⟨k5, hr5⟩ := hr_write (m' := .raw (SetSO X.prog X.w D (insS (g u) l))) (u' := SetSO X.prog X.w D (insS (g u) l)) hr4 updA_same oD (by intro _ z; cases z) (by intro _ _ z; cases z) fun _ => upd_same
      rw [updA_updA] at hr5
      refine ⟨(k3.trans k4).trans k5, hr5, Nat.le_trans insS_len (Nat.succ_le_succ hl2), insS_nd nd, fun x => ?_⟩
      rw [insS_mem, hm x, List.take_succ, hu, List.map_append, List.mem_append]
      show _ ↔ _ ∨ x ∈ [g u]
      rw [List.mem_singleton]
      exact Or.comm
    · have ei : i = n := by omega
      subst ei
      refine .inl ⟨wk.stops H2 gg, sorted_end (k1.trans k2) (hr2.sub (sbA _)) (hr2.at_ updA_same) (by omega) nd (fun x => ?_) q⟩
      rw [hm x, e2, List.take_length]
/-- sorted(set(xs)) -/
theorem BC.esortSet {xs : List Str} (B : SC X N sc) (hg : sc.names.lookup ("sorted" : Str) = some .globalImplicit) (hmg : X.mg "sorted" = none) (hg2 : sc.names.lookup ("set" : Str) = some .globalImplicit) (hm2 : X.mg "set" = none) (he : EvN X e δ A (.lst (xs.map .str))) (hz : xs.length < 64)
    (hs : starEach [e] X.env = (false, eval e X.env) :: starEach [] X.env := by rfl) : EvN X (.Call (.Name "sorted" p1) [.Call (.Name "set" p2) [e] [] p3] [] pos) δ A (.lst ((ordS xs).map .str)) := fun A1 k Q q σ H sl r => by
  refine runE.of (pe_callB (cr_sortedSS B.calm) (B.gl hg) hmg bt_sorted (pa_cons (pe_callTy (cr_setL B.calm) (B.gl hg2) hm2 (pa_cons pe_run pa_nil hs) (hv := bt_set) (he := hs)) pa_nil)) ?_
  refine runE.mono (he A1 k (fun d A2 => ∃ p, d = .ref p ∧ A1 p = none ∧ A2 = updA A1 p (.prim (.lst (xs.map .str)))) (fun p hp => ⟨p, rfl, hp, rfl⟩) σ H sl r) fun v H1 ⟨d, A2, k1, rp, hr1, p, ed, fp, eA⟩ => ?_
  subst ed eA
  cases rp
  obtain ⟨vs, h1, h2⟩ := hr1.at_ updA_same
  have ev : vs = xs.map V.str := by
    refine List.ext_getElem? fun i => ?_
    have lv := Paired.length h2
    rw [List.length_map] at lv
    by_cases hi : i < xs.length
    · obtain ⟨y, hy, ry⟩ := Paired.get0 h2 (List.getElem?_eq_getElem (by omega : i < vs.length))
      rw [List.getElem?_map, List.getElem?_eq_getElem hi] at hy
      cases hy
      rw [List.getElem?_eq_getElem (by omega : i < vs.length), List.getElem?_map, List.getElem?_eq_getElem hi]
      generalize vs[i] = v at ry ⊢
      cases ry
      rfl
    · rw [List.getElem?_eq_none (by omega), List.getElem?_map, List.getElem?_eq_none (by omega)]; rfl
  subst ev
  have zb : xs.length < scanBound := Nat.lt_trans hz (by decide)
  refine ⟨p, xs, rfl, .inl (.inl h1), zb, fun D acc nd la hm fD => ?_⟩
  have ex := ex_upd (o := SetSO X.prog X.w D acc) fD
  have kk : Kp X.K H1 (upd H1 D (SetSO X.prog X.w D acc)) := kp_ex ex
  exact sorted_end (k1.trans kk) ((hr1.stay kk ex).sub (Sub.upd (Sub.refl A1) fp)) upd_same (by omega) nd hm q
end
end TL
/-! tuples: +, slices, len; str of a text; o.m(*a, *b) -/
namespace TL
open PySem PySem.Spec PyProof.Rows L2
theorem bt_str : bootBuiltins ("str" : Str) = some (.type "str") := by kernel_rfl
section
variable {X : Cx} {N : List Str} {sc : Scope} {e a o : Expr} {es : List Expr} {δ : Ds} {A : AH} {Q : TQ} {pos apos p2 : Pos}
theorem cav_str {z : Str} : CaV X (.type "str") [.str z] A (.str z) := cav_of SkE.call_str_str fun A1 _ H vs hr rps R q => by
  obtain ⟨v, rfl, hv⟩ := rps1 rps
  cases hv
  exact ⟨z, rfl, q _ .str⟩
theorem cav_lenT {xs : List TL.D} : CaV X (.builtin "len") [.tup xs] A (.int xs.length) := cav_of call_len_seq fun A1 _ H vs hr rps R q => by
  obtain ⟨v, rfl, hv⟩ := rps1 rps
  obtain ⟨p, ws, rfl, h1, h2⟩ := hv.tup_inv
  refine ⟨p, ws, rfl, .inr h1, ?_⟩
  rw [Paired.length h2]
  exact q _ .int
/-- t + u -/
theorem opv_catT {xs ys : List TL.D} (hz : xs.length + ys.length ≤ sizeLine) : OpV X (binaryOp .Add) (.tup xs) (.tup ys) A (.tup (xs ++ ys)) := fun A1 k Q q =>
  ⟨_, op_catA, fun H vx vy hr rx ry R hR => by
    obtain ⟨p, vs, rfl, h1, h2⟩ := rx.tup_inv
    obtain ⟨r, ws, rfl, h3, h4⟩ := ry.tup_inv
    refine ⟨p, r, vs, ws, rfl, rfl, h1, h3, by rw [Paired.length h2, Paired.length h4]; exact hz, fun e => ?_, fun _ e => ?_, fun _ _ l hl => ?_⟩
    · subst e
      cases h2
      exact hR _ H _ A1 (Kp.refl H) (Rp.tups h3 h4) hr q
    · subst e
      cases h4
      rw [List.append_nil] at q
      exact hR _ H _ A1 (Kp.refl H) (Rp.tups h1 h2) hr q
    · have ex := ex_upd (o := .tup (vs ++ ws)) hl
      have kk : Kp X.K H (upd H l (.tup (vs ++ ws))) := kp_ex ex
      exact hR _ _ _ A1 kk (Rp.tups (.of upd_same) (Rps.keep (Paired.app h2 h4) kk)) (hr.stay kk ex) q⟩
theorem cutD_whole {α : Type} {xs : List α} {l h : Option Int} (e1 : HT.sIx xs.length 0 l = 0) (e2 : HT.sIx xs.length xs.length h = xs.length) : cutD xs l h = xs := by
  unfold cutD; rw [e1, e2, List.drop_zero, Nat.sub_zero, List.take_length]
/-- t[lo:hi] -/
theorem ev_sliceT {lo hi : Option Expr} {l h : Option Int} {xs : List TL.D} (ha : Ev X a δ A (.tup xs)) (hl : EvP X δ A lo l) (hh : EvP X δ A hi h) : Ev X (.Subscript a (.Slice lo hi none p2) pos) δ A (.tup (cutD xs l h)) := fun A1 k Q q σ H s r => by
  refine runE.of (pe_slice sl_tupA pe_run po_run po_run) (runE.mono (ha A1 k (fun v A2 => v = .tup xs ∧ A2 = A1) ⟨rfl, rfl⟩ σ H s r) fun v H1 ⟨d, A2, k1, rp, hr, e1, e2⟩ => ?_)
  subst e1 e2
  refine fun pins s' I => thn (hl.go k (s.keep k1) hr pins s' I) fun u s1 ⟨o1, H2, I2, pl, e1, k2, hr2⟩ => ⟨o1, H2, I2, pl, ?_⟩
  subst e1
  refine fun pins s' I => thn (hh.go k ((s.keep k1).keep k2) hr2 pins s' I) fun u s1 ⟨o2, H3, I3, pl, e2, k3, hr3⟩ => ⟨o2, H3, I3, pl, ?_⟩
  subst e2
  obtain ⟨p, vs, rfl, h1, h2⟩ := (rp.keep (k2.trans k3)).tup_inv
  have el := Paired.length h2
  refine ⟨p, vs, rfl, h1, fun ⟨w1, w2⟩ => ?_, fun _ t ht => ?_⟩
  · rw [el] at w1 w2
    rw [cutD_whole w1 w2] at q
    exact ⟨.tup xs, A2, (k1.trans k2).trans k3, Rp.tups h1 h2, hr3, q⟩
  · have ex := ex_upd (o := .tup (cutV vs o1 o2)) ht
    have kk : Kp X.K H3 (upd H3 t (.tup (cutV vs o1 o2))) := kp_ex ex
    exact ⟨_, A2, ((k1.trans k2).trans k3).trans kk, Rp.tups (.of upd_same) (Rps.keep (cut_rp h2) kk), hr3.stay kk ex, q⟩
theorem eva_star {xs ys : List TL.D} {p : Pos} (h : Ev X e δ A (.tup xs)) (h2 : EvA X es δ A ys) (hs : starEach (.Starred e p :: es) X.env = (true, eval e X.env) :: starEach es X.env := by rfl) : EvA X (.Starred e p :: es) δ A (xs ++ ys) := fun A1 k Q q =>
  wpa_star (h A1 k _ ⟨xs, .inl rfl, h2 A1 k _ q⟩) hs
theorem starcall_of {M : Model} {B : Around} {E : Value → Shared → Prop} {s : Shared} {env : Env} {m : Str} {args : List Expr} {R : Value → Shared → Prop} (hb : attributeBase o m env (eval o env) = eval o env) (hf : methodCallForm (args.length + ([] : List Keyword).length) (backTo pos (starEach args env)) [] = false)
    (h : wpAny M B (eval o env) (fun ov s₁ => wpAny M B (getAttr ov m true) (fun f s₂ => wpAny M B (callWith pos f [] (backTo pos (starEach args env)) []) R E s₂) E s₁) E s) : wpAny M B (eval (.Call (.Attribute o m apos) args [] pos) env) R E s := by
  have k0 : backToKw pos (keywordEach [] env) = [] := rfl
  have c0 : ∀ ov, calleeOf false o env ov m = (getAttr ov m true >>= fun v => pure (v, [])) := fun _ => rfl
  rw [arm_eval_Call, hb, k0]
  refine wpAny_bind (wpAny_mono h (fun ov s₁ h₁ => wpAny_bind (wpAny_standAt ?_)) fun _ _ x => x)
  unfold methodCall
  rw [hf, show methodCallPos false o env apos pos = pure pos from rfl, c0]
  exact wpAny_bind (wpAny_holding (wpAny_bind (wpAny_mono h₁ (fun f s₂ h₂ => wpAny_pure (wpAny_bind (wpAny_pure h₂))) fun _ _ x => x)))
/-- the arguments, two or more, the first with a star -/
theorem args_star2 {M : Model} {B : Around} {E : Value → Shared → Prop} {s : Shared} {f : Value} {x : Sem Value} {y : Bool × Sem Value} {rest : List (Bool × Sem Value)} {R : Args → Shared → Prop} (h : wpAny M B (spliced ((true, x) :: y :: rest)) (fun vs s₁ => R ⟨vs, []⟩ s₁) E s) : wpAny M B (evalArgs f true ((true, x) :: y :: rest) []) R E s := by
  unfold evalArgs
  show wpAny M B (spliced ((true, x) :: y :: rest) >>= _) R E s
  exact wpAny_bind (wpAny_mono h (fun vs s₁ h₁ => wpAny_holding (wpAny_bind (wpAny_pure (wpAny_bind (wpAny_pure (wpAny_pure h₁)))))) fun _ _ z => z)
/-- o.m(..) with stars among the arguments, that change nothing -/
theorem wpe_methA {m : Str} {k : Nat} {g C p : Addr} {tp : TSp} {ET : TXQ} {ds : List TL.D} (cl : Cls X.K C) (b : BMeth X.K C m g) (F : FnT X.prog X.w X.K X.mg X.base k g tp) (hr : Room k X.A) (hx : PassD X δ ET) (ho : Ev X o δ A (.ref p)) (it : InsT X.K A p C m) (ha : EvA X es δ A ds) (h : tp (.ref p :: ds) A Q ET)
    {x0 : Sem Value} {y0 : Bool × Sem Value} {rest0 : List (Bool × Sem Value)} (hst : backTo pos (starEach es X.env) = (true, x0) :: y0 :: rest0 := by rfl) (hb : attributeBase o m X.env (eval o X.env) = eval o X.env := by rfl) (hf : methodCallForm (es.length + ([] : List Keyword).length) (backTo pos (starEach es X.env)) [] = false := by rfl) (hany : (backTo pos (starEach es X.env)).any (·.1) = true := by rfl) : WPE X (.Call (.Attribute o m apos) es [] pos) δ A Q := fun σ H sl r pins s I => by
  refine starcall_of hb hf (thn (ho A (Sub.refl A) (fun x A1 => x = .ref p ∧ A1 = A) ⟨rfl, rfl⟩ σ H sl r pins s I) fun u s1 ⟨v, H1, I1, rx, d, A1, k1, rp, hr1, e1, e2⟩ => ?_)
  subst e1 e2
  cases rp
  obtain rfl : u = Value.ref p := rx
  obtain ⟨dx, gs, ea, l⟩ := it H1 hr1
  refine getbound_ok I1 ea cl b l fun q1 s2 hq1 I2 => ?_
  have ex := ex_upd (o := .met g p) hq1
  have kk : Kp X.K H1 (upd H1 q1 (.met g p)) := kp_ex ex
  have fA : A1 q1 = none := hr1.free hq1
  have hr2 : HR X.K (updA A1 q1 (.prim (.raw (.met g p)))) (upd H1 q1 (.met g p)) := hr1.new (o := .raw (.met g p)) hq1 kk ex upd_same
  refine PySem.W.ks_call (P := PySem.W.MethP X.K q1 g (.ref p)) hany (PySem.W.keeps_M b.fi) ?_
  rw [hst]
  refine args_star2 ?_
  rw [← hst]
  refine thn (ha _ (Sub.upd (Sub.refl A1) fA) (fun xs A2 => xs = ds ∧ A2 = updA A1 q1 (.prim (.raw (.met g p)))) ⟨rfl, rfl⟩ σ _ (sl.keep (k1.trans kk)) hr2 pos pins s2 I2) fun us s3 ⟨vs, H3, I3, rv, xs, A3, k3, rps, hr3, e3, e4⟩ => ?_
  subst e3 e4
  have om : H3 q1 = some (.met g p) := hr3.at_ updA_same
  have hr4 := hr3.sub (Sub.upd (o := .prim (.raw (.met g p))) (Sub.refl A1) fA)
  have sl3 := ((sl.keep (k1.trans kk)).keep k3)
  refine ⟨met_P I3 om, wpAny_call (PySem.W.method_call (met_P I3 om).1 (codeAny_mono (F X.A X.stack s3 H3 (.ref p :: us) (.ref p :: vs) (LQ X.K H3 Q) (EXT X.K H3 ET) hr I3.env0 (.cons rfl rv) ⟨.ref p :: xs, A1, Q, ET, .cons .ref rps, hr4, h, fun _ _ q => q, fun _ _ _ q => q⟩) fun r s' hq => ?_))⟩
  cases r with
  | error e => exact hx pins σ H3 s3 e s' I3 sl3 hq
  | ok fl =>
    cases fl with
    | ret u => exact EP.from ((k1.trans kk).trans k3) (I3.after hq)
    | next => exact hq.elim
    | brk => exact hq.elim
    | cont => exact hq.elim
/-- tuple(e), e a new list -/
theorem BC.etupN {xs : List TL.D} (B : BC X N sc) (hg : sc.names.lookup ("tuple" : Str) = some .globalImplicit) (hm : X.mg "tuple" = none) (h : EvN X e δ A (.lst xs)) {p1 : Pos} (hs : starEach [e] X.env = (false, eval e X.env) :: starEach [] X.env := by rfl) : Ev X (.Call (.Name "tuple" p1) [e] [] pos) δ A (.tup xs) := fun A1 k Q q =>
  WPE.monoV (B.callT hg hm bt_tuple (wpa_cons (h A1 k _ fun p hp => wpa_nil (cav_tupleL (.inl updA_same) _ (Sub.refl _) (fun d A2 => d = .tup xs ∧ TL.Sub A1 A2) ⟨rfl, Sub.upd (Sub.refl A1) hp⟩)) hs) (he := hs)) fun d A2 ⟨ed, s⟩ => ⟨A1, Vw.sub s, by rw [ed]; exact q⟩
/-- tuple(e), e a list that stands -/
theorem BC.etup {xs : List TL.D} {p : Addr} (B : BC X N sc) (hg : sc.names.lookup ("tuple" : Str) = some .globalImplicit) (hm : X.mg "tuple" = none) (h : Ev X e δ A (.ref p)) (hp : RdL X.K A p xs) {p1 : Pos} (hs : starEach [e] X.env = (false, eval e X.env) :: starEach [] X.env := by rfl) : Ev X (.Call (.Name "tuple" p1) [e] [] pos) δ A (.tup xs) :=
  B.eT hg hm bt_tuple (eva_cons h eva_nil hs) (cav_tupleL hp) (he := hs)
end
end TL
/-! the run of the top, its looks taken in parts -/
namespace TL
open PySem PySem.Spec PyProof.Rows L2
theorem map2 {σ α β : Type} {E : Option σ} {f : σ → α} {g : σ → β} {a : α} {b : β} (h1 : E.map f = some a) (h2 : E.map g = some b) : E.map (fun s => (f s, g s)) = some (a, b) := by
  cases E with
  | none => cases h1
  | some s =>
    have e1 := Option.some.inj (show some (f s) = some a from h1)
    have e2 := Option.some.inj (show some (g s) = some b from h2)
    show some (f s, g s) = some (a, b)
    rw [e1, e2]
theorem mapP {σ α β : Type} {E : Option σ} {f : σ → α × β} {v : α × β} (h1 : E.map (fun s => (f s).1) = some v.1) (h2 : E.map (fun s => (f s).2) = some v.2) : E.map f = some v := map2 h1 h2
theorem map1 {σ α β : Type} {E : Option σ} {f : σ → α} {g : σ → β} {a : α} {b : β} (h : E.map (fun s => (f s, g s)) = some (a, b)) : E.map f = some a := by
  cases E with
  | none => cases h
  | some s => exact congrArg (fun z => some z.1) (Option.some.inj h)
theorem mapS {σ α β : Type} {E : Option σ} {f : σ → α} {g : σ → β} {a : α} {b : β} (h : E.map (fun s => (f s, g s)) = some (a, b)) : E.map g = some b := by
  cases E with
  | none => cases h
  | some s => exact congrArg (fun z => some z.2) (Option.some.inj h)
theorem mapAnd {σ : Type} {E : Option σ} {f g : σ → Bool} (h1 : E.map f = some true) (h2 : E.map g = some true) : E.map (fun s => f s && g s) = some true := by
  cases E with
  | none => cases h1
  | some s =>
    have e1 := Option.some.inj (show some (f s) = some true from h1)
    have e2 := Option.some.inj (show some (g s) = some true from h2)
    show some (f s && g s) = some true
    rw [e1, e2]; rfl
theorem mapAll {σ α : Type} {E : Option σ} {xs ys : List α} {f : σ → α → Bool} (h1 : E.map (fun s => xs.all (f s)) = some true) (h2 : E.map (fun s => ys.all (f s)) = some true) : E.map (fun s => (xs ++ ys).all (f s)) = some true := by
  have e : (fun s => (xs ++ ys).all (f s)) = fun s => xs.all (f s) && ys.all (f s) := funext fun s => List.all_append
  rw [e]; exact mapAnd h1 h2
theorem mapMap {σ α β : Type} {E : Option σ} {xs ys : List α} {f : σ → α → β} {us vs : List β} (h1 : E.map (fun s => xs.map (f s)) = some us) (h2 : E.map (fun s => ys.map (f s)) = some vs) : E.map (fun s => (xs ++ ys).map (f s)) = some (us ++ vs) := by
  cases E with
  | none => cases h1
  | some s =>
    have e1 := Option.some.inj (show some (xs.map (f s)) = some us from h1)
    have e2 := Option.some.inj (show some (ys.map (f s)) = some vs from h2)
    show some ((xs ++ ys).map (f s)) = some (us ++ vs)
    rw [List.map_append, e1, e2]
/-- the part of the heap that the facts are asked of -/
def kf (n : Nat) (s : PySem.W.SharedT) : PySem.W.Frag := frX n (HandSHeadRun.getT s)
/-- the run to its end -/
noncomputable abbrev endR (r : PySem.W.OpenRow) (M : Nat) (w : World) (os : OsState) : Option PySem.W.SharedT := HandSHeadRun.endF (HandSHeadRun.stepQ (HandSHeadRun.denQ HandSHeadRun.tabQ) r.prog w) M r.prog w os
noncomputable abbrev seenR (r : PySem.W.OpenRow) (q : Program) (loose : List Str) (s : PySem.W.SharedT) := HandSHeadRun.seenQ q loose (importedModules r.prog.main.body) (fun s => PySem.W.xlAt q [] s && PySem.W.recOk r.toRowW.records s) s.abs
theorem run_of {r : PySem.W.OpenRow} {q : Program} {M n : Nat} {loose : List Str} {w : World} {fa : List He.Fa} {fn : List He.DefD} {ck : List Chk} {px : List (PySem.W.Frag → Addr)} {vx : List He.FnW}
    (hl : ∀ os, (endR r M w os).map (fun s => HandSHeadRun.looksF r.prog (PySem.W.boot_heap w.params) s.abs) = some true)
    (hs : ∀ os, (endR r M w os).map (fun s => seenR r q loose s) = some (PySem.W.openGood q loose))
    (hf : ∀ os, (endR r M w os).map (fun s => fa.all fun f => f.ok (kf n s)) = some true)
    (hd : ∀ os, (endR r M w os).map (fun s => fn.all fun d => d.ok (kf n s)) = some true)
    (hw : ∀ os, (endR r M w os).map (fun s => fn.map fun d => He.fnW (kf n s) d.at_) = some (fn.map He.DefD.val))
    (hc : ∀ os, (endR r M w os).map (fun s => ck.all fun c => c (kf n s)) = some true)
    (hp : ∀ os, (endR r M w os).map (fun s => px.map fun p => fnSeen (kf n s) (p (kf n s))) = some vx) :
    HandSHeadRun.RunEq r q (hookX n fa fn ck px vx) (fun s => obXG n fa fn ck px (HandSHeadRun.getT s)) M loose w := fun os =>
  map2 (hl os) (map2 (hs os) (map2 (map2 (mapAnd (hf os) (hd os)) (hw os)) (map2 (hc os) (hp os))))
end TL
/-! minus a constant; the last of a list -/
namespace TL
open PySem PySem.Spec PyProof.Rows L2
section
variable {X : Cx} {δ : Ds} {A : AH}
theorem pe_negc {i : Int} {j p1 p2} : PE X (.UnaryOp .USub (.Constant (.int i) j p1) p2) (tC (.int (-i))) := ⟨fun _ _ _ H _ I h => UnaryOp_ (wpAny_Constant_int (neg_int ⟨.int (-i), H, I.tok _, ⟨_, rfl⟩, h⟩))⟩
theorem ev_neg {i : Int} {j p1 p2} : Ev X (.UnaryOp .USub (.Constant (.int i) j p1) p2) δ A (.int (-i)) := ev_const pe_negc fun _ => .int
theorem atI_last {α : Type} {xs : List α} {x : α} : atI (xs ++ [x]) (-1) = some x := by
  unfold atI ixN
  rw [if_neg (by decide), if_pos (by simp; omega)]
  show (xs ++ [x])[(-1 + ((xs ++ [x]).length : Int)).toNat]? = _
  rw [List.length_append, show (-1 + ((xs.length + [x].length : Nat) : Int)).toNat = xs.length by show (-1 + ((xs.length + 1 : Nat) : Int)).toNat = _; omega]
  simp
end
end TL
/-! a check: o.m as a value -/
namespace TL
open PySem PySem.Spec PyProof.Rows L2
def ckBM (C m : Str) : Chk := fun K => He.eqO (PySem.W.specialIn K (.ref (He.ma K (He.ga K C) m)) "__get__") (some (some (.builtin "function.__get__"))) && (decide (PySem.W.takesIn K (.ref (He.ma K (He.ga K C) m)) = some false) && PySem.W.fnIn K (He.ma K (He.ga K C) m))
theorem ckBM_ok {C m : Str} {K : PySem.W.Frag} (h : Meth K (He.ga K C) m (He.ma K (He.ga K C) m)) (c : ckBM C m K = true) (e : PySem.W.copiedNames.contains m = false := by decide) : BMeth K (He.ga K C) m (He.ma K (He.ga K C) m) := by
  obtain ⟨c1, c⟩ := Bool.and_eq_true_iff.mp c
  obtain ⟨c2, c3⟩ := Bool.and_eq_true_iff.mp c
  exact ⟨h, He.eqO_ok c1, of_decide_eq_true c2, e, c3⟩
end TL
/-! own instances that are compared by what they are -/
namespace TL
open PySem PySem.Spec PyProof.Rows L2 PySem.SeqAt
section
variable {prog : Program} {w : World} {A : Around} {E : Value → Shared → Prop} {s : Shared} {K : PySem.W.Frag} {x y C D : Addr} {ox oy : Obj} {od od2 : Option Obj}
/-- a class without == and != of its own -/
structure ByIs (K : PySem.W.Frag) (C : Addr) : Prop where
  mro : PySem.W.mroIn K C (.type "object") = some true
  eq : PySem.W.findIn K (.ref C) "__eq__" = some (some (.builtin "object.__eq__"))
  ne : PySem.W.findIn K (.ref C) "__ne__" = some (some (.builtin "object.__ne__"))
theorem oEq_ent {M : Model} {A : Around} {Q : Fin → Shared → Prop} (hx : s.heap.get? x = some ox) (hy : s.heap.get? y = some oy) (hnt : ox.cls ≠ .type "tuple") (hq : Q (.done (.ret (if x = y then .bool true else .notImplemented))) s) : wpAny M A (Builtin.«object.__eq__» ⟨[.ref x, .ref y], []⟩) Q E s := by
  by_cases h : x = y
  · subst h
    rw [if_pos rfl] at hq
    exact objEq_entry_same hq
  · rw [if_neg h] at hq
    exact objEq_entry_other h hx hy hnt hq
theorem call_oEq {Q : Value → Shared → Prop} (X : K.In s.heap) (I : PySem.W.InstAt s.heap x ox C od) (B : ByIs K C) (hx : s.heap.get? x = some ox) (hy : s.heap.get? y = some oy) (hnt : ox.cls ≠ .type "tuple") (hq : Q (if x = y then .bool true else .notImplemented) s) :
    wpAny (model prog w) A (call (.builtin "object.__eq__") [.ref x, .ref y]) Q E s :=
  wpAny_call (codeAny_call_builtin F.cmp_object.eq.plain F.cmpEntry_eq (PySem.W.check_slot F.cmpKind_eq F.cmpSplit_eq (I.type.andThen (PySem.W.looks_mroIn X B.mro)) (F.cmpArgs_eq _ _) (oEq_ent hx hy hnt hq)))
theorem ifBound_oNe {args : List Value} {Q : Option Value → Shared → Prop} (X : K.In s.heap) (I : PySem.W.InstAt s.heap x ox C od) (hs : PySem.W.findIn K (.ref C) "__ne__" = some (some (.builtin "object.__ne__")))
    (h : wpAny (model prog w) A (call (.builtin "object.__ne__") (.ref x :: args)) (fun v => Q (some v)) E s) : wpAny (model prog w) A (callSpecialIfBound? (.ref x) "__ne__" args) Q E s := by
  simp only [callSpecialIfBound?, bindSpecialIfBound?]
  refine wpAny_holding (wpAny_bind (wpAny_bind (wpAny_bind (I.type.here ((PySem.W.looks_findIn X hs).here ?_)))))
  refine wpAny_bind (wpAny_askSetting (wpAny_ite ?_))
  have fin : wpAny (model prog w) A (call (.builtin "object.__ne__") ([.ref x] ++ args) >>= fun v => pure (some v)) Q E s := wpAny_bind (wpAny_mono h (fun v s' h' => wpAny_pure h') fun _ _ h' => h')
  split
  · exact wpAny_bind (wpAny_of_eq (F.cmp_object.ne.bind _) (wpAny_pure (by exact fin)))
  · exact wpAny_tryCatch (wpAny_bind (wpAny_of_eq (F.cmp_object.ne.bind _) (wpAny_pure (by exact fin))))
theorem oNe_ent {A : Around} {Q : Fin → Shared → Prop} (hu : A.units < cLine) (X : K.In s.heap) (I : PySem.W.InstAt s.heap x ox C od) (B : ByIs K C) (hx : s.heap.get? x = some ox) (hy : s.heap.get? y = some oy) (hnt : ox.cls ≠ .type "tuple") (hq : Q (.done (.ret (if x = y then .bool false else .notImplemented))) s) :
    wpAny (model prog w) A (Builtin.«object.__ne__» ⟨[.ref x, .ref y], []⟩) Q E s := by
  have one : ∀ {R : Option Value → Shared → Prop}, R (some (if x = y then .bool true else .notImplemented)) s → wpAny (model prog w) A (callSpecialIfBound? (.ref x) "__eq__" [.ref y]) R E s := fun h => HN.ifBound_objEq X I B.eq (call_oEq X I B hx hy hnt h)
  unfold Builtin.«object.__ne__»
  by_cases h : x = y
  · subst h
    rw [if_pos rfl] at hq one
    repeat (first | with_reducible refine wpAny_cRoomFor hu ?_ | with_reducible refine one ?_ | wp_step)
    exact hq
  · rw [if_neg h] at hq one
    repeat (first | with_reducible refine wpAny_cRoomFor hu ?_ | with_reducible refine one ?_ | wp_step)
    exact hq
theorem call_oNe {Q : Value → Shared → Prop} (hu : A.units + 1 < cLine) (X : K.In s.heap) (I : PySem.W.InstAt s.heap x ox C od) (B : ByIs K C) (hx : s.heap.get? x = some ox) (hy : s.heap.get? y = some oy) (hnt : ox.cls ≠ .type "tuple") (hq : Q (if x = y then .bool false else .notImplemented) s) :
    wpAny (model prog w) A (call (.builtin "object.__ne__") [.ref x, .ref y]) Q E s :=
  wpAny_call (codeAny_call_builtin F.cmp_object.ne.plain F.cmpEntry_ne (PySem.W.check_slot F.cmpKind_ne F.cmpSplit_ne (I.type.andThen (PySem.W.looks_mroIn X B.mro)) (F.cmpArgs_ne _ _) (oNe_ent (A := A.in1) hu X I B hx hy hnt hq)))
theorem try_oNe {Q : Option Value → Shared → Prop} (hu : A.units + 1 < cLine) (X : K.In s.heap) (I : PySem.W.InstAt s.heap x ox C od) (B : ByIs K C) (hx : s.heap.get? x = some ox) (hy : s.heap.get? y = some oy) (hnt : ox.cls ≠ .type "tuple") (hq : Q (if x = y then some (.bool false) else none) s) :
    wpAny (model prog w) A (tryCompare (.ref x) "__ne__" (.ref y)) Q E s := by
  unfold tryCompare
  refine wpAny_bind (ifBound_oNe X I B.ne (call_oNe hu X I B hx hy hnt ?_))
  by_cases h : x = y
  · rw [if_pos h] at hq ⊢; exact wpAny_pure hq
  · rw [if_neg h] at hq ⊢; exact wpAny_pure hq
theorem ne_isK {Q : Value → Shared → Prop} (hu : A.units + 1 < cLine) (X : K.In s.heap) (I : PySem.W.InstAt s.heap x ox C od) (J : PySem.W.InstAt s.heap y oy C od2) (B : ByIs K C) (hx : s.heap.get? x = some ox) (hy : s.heap.get? y = some oy) (hnt : ox.cls ≠ .type "tuple") (hnt2 : oy.cls ≠ .type "tuple") (hq : Q (.bool (!decide (x = y))) s) :
    wpAny (model prog w) A (compareOp .NotEq (.ref x) (.ref y)) Q E s := by
  show wpAny (model prog w) A (richCompare .NotEq (.ref x) (.ref y)) Q E s
  have hu0 : A.units < cLine := Nat.lt_of_succ_lt hu
  simp only [richCompare, cmpInfo_NotEq, oneThing_ref]
  refine wpAny_holding (wpAny_bind (wpAny_cRoomFor hu0 ?_))
  refine wpAny_bind (I.type.here ?_)
  refine wpAny_bind (J.type.here ?_)
  rw [if_neg (by simp)]
  refine wpAny_bind (wpAny_pure ?_)
  simp only [Bool.false_eq_true, if_false, Bool.not_false, if_true]
  by_cases h : x = y
  · subst h
    refine wpAny_bind (try_oNe hu X I B hx hy hnt ?_)
    rw [if_pos rfl]
    exact wpAny_pure (by simpa using hq)
  · refine wpAny_bind (try_oNe hu X I B hx hy hnt ?_)
    rw [if_neg h]
    refine wpAny_bind (try_oNe hu X J B hy hx hnt2 ?_)
    rw [if_neg (Ne.symm h)]
    refine wpAny_bind (wpAny_rule (wpAny_bind (wpAny_isSame_ref_other h hx hy hnt (wpAny_pure ?_))))
    simpa [h] using hq
end
end TL
/-! own operators -/
namespace TL
open PySem PySem.Spec PyProof.Rows L2
section
variable {prog : Program} {w : World} {A : Around} {E : Value → Shared → Prop} {s : Shared} {K : PySem.W.Frag} {x y C L f : Addr} {ox oy : Obj} {od od2 : Option Obj}
/-- x op y, both of the class -/
theorem bin_same {op : Operator} {Q : Value → Shared → Prop} (X : K.In s.heap) (I : PySem.W.InstAt s.heap x ox C od) (J : PySem.W.InstAt s.heap y oy C od2) (hc : PySem.W.selfFirst K C = true)
    (hs : PySem.W.findIn K (.ref C) (PySem.dunder op.info.2) = some (some (.ref f))) (hf : PySem.W.isFn K (.ref f) = true)
    (h : wpAny (model prog w) A (call (.ref f) [.ref x, .ref y]) (PySem.W.CmpBack Q) E s) : wpAny (model prog w) A (binaryOp op (.ref x) (.ref y)) Q E s := by
  obtain ⟨cd, rest, hcd, hm⟩ := PySem.W.ksp_first hc
  rcases hi : op.info with ⟨sym, nm'⟩
  rw [hi] at hs
  dsimp only at hs
  have one := PySem.W.ksp_try X I hs hf h
  obtain ⟨hh, g, d, tt, os⟩ := s
  have L1 : PySem.W.Looks (model prog w) hh (typeOf (.ref x)) (.ref C) := I.type
  have L2 : PySem.W.Looks (model prog w) hh (typeOf (.ref y)) (.ref C) := J.type
  have L3 : PySem.W.Looks (model prog w) hh (fillsNumberSlot (.ref C) nm') true := PySem.W.fills_K X hcd hm hs
  simp only [binaryOp, hi]
  refine wpAny_holding (wpAny_bind ?_)
  unfold binaryOp1
  refine wpAny_bind (L1.at (wpAny_bind (L2.at (wpAny_bind (L3.at ?_)))))
  simp only [beq_self_eq_true, if_true]
  refine wpAny_bind (wpAny_pure ?_)
  simp only [Bool.and_false, Bool.false_and, Bool.false_eq_true, if_false, if_true]
  refine wpAny_bind (wpAny_pure ?_)
  simp only [Bool.false_eq_true, if_false]
  refine wpAny_bind (wpAny_mono one (fun r s' hr' => ?_) fun _ _ e => e)
  obtain ⟨v, rfl, hq⟩ := hr'
  refine wpAny_pure ?_
  exact wpAny_pure hq
end
theorem cmpBack_of {Q : Value → Shared → Prop} {v : Value} {s : Shared} (h : v ≠ .notImplemented) (q : Q v s) : PySem.W.CmpBack Q v s := by
  cases v <;> first | exact q | exact (h rfl).elim
theorem relV_some {v : V} {u : Value} (r : RelV v u) : u ≠ .notImplemented := fun e => by
  subst e
  cases v <;> first | exact nomatch r | (obtain ⟨_, z⟩ := r; exact nomatch z)
theorem cmpBack_ep {X : Cx} {pins : List (Addr × Obj)} {σ : St} {Q : VK} {u : Value} {s : Shared} (h : EP X pins σ Q u s) : PySem.W.CmpBack (EP X pins σ Q) u s := by
  obtain ⟨v, H1, I1, r1, q⟩ := h
  exact cmpBack_of (relV_some r1) ⟨v, H1, I1, r1, q⟩
section
variable {X : Cx} {N : List Str} {sc : Scope} {e a b c o i_ v_ : Expr} {es : List Expr} {st : Stmt} {δ : Ds} {A : AH} {Q : TQ} {D : TEnds} {d x y z : TL.D} {pos apos p_ : Pos}
variable {k : Nat} {f C p q : Addr} {tp : TSp} {ET : TXQ} {m : Str}
/-- an operation by values, the slots known -/
def OpD (X : Cx) (δ : Ds) (f : Value → Value → Sem Value) (x y : TL.D) (A : AH) (Q : TQ) : Prop := ∀ (pins : List (Addr × Obj)) (s : Shared) (σ : St) (H : Hp) (vx vy : V) (v u : Value), Inv X pins σ H s → Sl X.K H σ δ → HR X.K A H → Rp X.K H vx x → Rp X.K H vy y → RelV vx v → RelV vy u →
  wpAny (model X.prog X.w) X.A (f v u) (EP X pins σ (LQ X.K H Q)) X.xe s
theorem OpW.toD {f : Value → Value → Sem Value} (h : OpW X f x y A Q) : OpD X δ f x y A Q := fun pins s σ H vx vy v u I sl hr rx ry r1 r2 => by
  obtain ⟨r, ho, hq⟩ := h
  exact ho pins s σ H vx vy v u _ I r1 r2 (hq H vx vy hr rx ry _ fun v' H' d A' k rp hr' q => ⟨d, A', k, rp, hr', q⟩)
theorem wpe_binD {op : Operator} (h : WPE X a δ A fun x A1 => WPE X b δ A1 fun y A2 => OpD X δ (binaryOp op) x y A2 Q) : WPE X (.BinOp a op b pos) δ A Q := fun σ H sl r pins s I =>
  wpAny_BinOp (thn (h σ H sl r pins s I) fun v s1 ⟨vx, H1, I1, r1, x, A1, k1, rx, hr1, q1⟩ => thn (q1 σ H1 (sl.keep k1) hr1 pins s1 I1) fun u s2 ⟨vy, H2, I2, r2, y, A2, k2, ry, hr2, q2⟩ =>
    thn (q2 pins s2 σ H2 vx vy v u I2 (sl.keep (k1.trans k2)) hr2 (rx.keep k2) ry r1 r2) fun w s3 => EP.from (k1.trans k2))
theorem wpe_cmpD {op : CmpOp} (hm : behindInMarks op b = false) (h : WPE X a δ A fun x A1 => WPE X b δ A1 fun y A2 => OpD X δ (compareOp op) x y A2 Q) : WPE X (.Compare a [op] [b] pos) δ A Q := fun σ H sl r pins s I =>
  wpAny_Compare1 (thn (h σ H sl r pins s I) fun v s1 ⟨vx, H1, I1, r1, x, A1, k1, rx, hr1, q1⟩ => thn (q1 σ H1 (sl.keep k1) hr1 pins s1 I1) fun u s2 ⟨vy, H2, I2, r2, y, A2, k2, ry, hr2, q2⟩ =>
    thn (q2 pins s2 σ H2 vx vy v u I2 (sl.keep (k1.trans k2)) hr2 (rx.keep k2) ry r1 r2) fun w s3 => EP.from (k1.trans k2)) hm
theorem wpt_cmpD {op : CmpOp} {Q : BQ} (hm : behindInMarks op b = false) (h : WPE X a δ A fun x A1 => WPE X b δ A1 fun y A2 => OpD X δ (compareOp op) x y A2 fun d A3 => ∃ k, d = .bl k ∧ Q k A3) : WPT X (.Compare a [op] [b] pos) δ A Q := fun σ H sl r pins s I => by
  refine wpAny_isTrue_Compare1 (thn (h σ H sl r pins s I) fun v s1 ⟨vx, H1, I1, r1, x, A1, k1, rx, hr1, q1⟩ => thn (q1 σ H1 (sl.keep k1) hr1 pins s1 I1) fun u s2 ⟨vy, H2, I2, r2, y, A2, k2, ry, hr2, q2⟩ =>
    thn (q2 pins s2 σ H2 vx vy v u I2 (sl.keep (k1.trans k2)) hr2 (rx.keep k2) ry r1 r2) fun w s3 ⟨vz, H3, I3, r3, z, A3, k3, rz, hr3, kk, ez, q3⟩ => ?_) hm
  subst ez
  cases rz
  cases r3
  exact wpAny_truthy_bool ⟨H3, I3, A3, (k1.trans k2).trans k3, hr3, q3⟩
/-- the own method op of the class at x op y -/
theorem opd_bin {op : Operator} (hs : Meth X.K C m f) (hc : PySem.W.selfFirst X.K C = true) (F : FnT X.prog X.w X.K X.mg X.base k f tp) (hr : Room k X.A) (hx : PassD X δ ET) (it : InsC X.K A p C) (it2 : InsC X.K A q C)
    (h : tp [.ref p, .ref q] A Q ET) (em : PySem.dunder op.info.2 = m := by rfl) : OpD X δ (binaryOp op) (.ref p) (.ref q) A Q := fun pins s σ H vx vy v u I sl hR rx ry r1 r2 => by
  cases rx; cases ry
  obtain rfl := vref r1
  obtain rfl := vref r2
  obtain ⟨ox, od, J⟩ := ins_at I it hR
  obtain ⟨oy, od2, J2⟩ := ins_at I it2 hR
  refine bin_same I.kIn J J2 hc (by rw [em]; exact hs.at_) hs.fn (thn (run_TA (us := [.ref p, .ref q]) (vs := [.ref p, .ref q]) F (sub_in0 hr) (fun e s' q => hx pins σ H s e s' I sl q) I (.cons rfl (.cons rfl .nil)) (rps_two .ref .ref) hR h) fun u' s1 q1 => cmpBack_ep q1)
/-- .. at x op= y -/
theorem opd_inpl {op : Operator} (hs : Meth X.K C m f) (hc : PySem.W.selfFirst X.K C = true) (F : FnT X.prog X.w X.K X.mg X.base k f tp) (hr : Room k X.A) (hx : PassD X δ ET) (it : InsC X.K A p C)
    (h : tp [.ref p, y] A Q ET) (em : PySem.dunderI op.info.2 = m := by rfl) : OpD X δ (inplaceOp op) (.ref p) y A Q := fun pins s σ H vx vy v u I sl hR rx ry r1 r2 => by
  cases rx
  obtain rfl := vref r1
  obtain ⟨ox, od, J⟩ := ins_at I it hR
  obtain ⟨m, hF⟩ := I.fr
  refine PySem.W.ksp_inplace hF I.ok.mod.kin J hc (by rw [em]; exact hs.at_) hs.fn (thn (run_TA (us := [.ref p, u]) (vs := [.ref p, vy]) F (sub_in0 hr) (fun e s' q => hx pins σ H s e s' I sl q) I (.cons rfl (.cons r2 .nil)) (rps_two .ref ry) hR h) fun u' s1 q1 => cmpBack_ep q1)
/-- x in o, x not in o -/
theorem opd_in (hm : Meth X.K C "__contains__" f) (F : FnT X.prog X.w X.K X.mg X.base k f tp) (hr : Room k X.A) (hx : PassD X δ ET) (it : InsC X.K A p C)
    (h : tp [.ref p, x] A (fun d A2 => ∃ n, d = .bl n ∧ Q (.bl n) A2) ET) : OpD X δ (compareOp .In) x (.ref p) A Q := fun pins s σ H vx vy v u I sl hR rx ry r1 r2 => by
  cases ry
  obtain rfl := vref r2
  obtain ⟨ox, od, J⟩ := ins_at I it hR
  obtain ⟨m, hF⟩ := I.fr
  refine PySem.W.in_K hF I.ok.mod.kin J hm.at_ hm.fn (thn (run_TA (us := [.ref p, v]) (vs := [.ref p, vx]) F (sub_in0 hr) (fun e s' q => hx pins σ H s e s' I sl q) I (.cons rfl (.cons r1 .nil)) (rps_two .ref rx) hR h) fun u' s1 ⟨w, H1, I1, r1, d, A2, k1, rd, hr2, n, ed, q⟩ => ?_)
  subst ed
  cases rd
  cases r1
  exact wpAny_truthy_bool ⟨.bl n, H1, I1, rfl, .bl n, A2, k1, .bl, hr2, q⟩
theorem opd_nin (hm : Meth X.K C "__contains__" f) (F : FnT X.prog X.w X.K X.mg X.base k f tp) (hr : Room k X.A) (hx : PassD X δ ET) (it : InsC X.K A p C)
    (h : tp [.ref p, x] A (fun d A2 => ∃ n, d = .bl n ∧ Q (.bl (!n)) A2) ET) : OpD X δ (compareOp .NotIn) x (.ref p) A Q := fun pins s σ H vx vy v u I sl hR rx ry r1 r2 => by
  cases ry
  obtain rfl := vref r2
  obtain ⟨ox, od, J⟩ := ins_at I it hR
  obtain ⟨m, hF⟩ := I.fr
  refine PySem.W.notIn_K hF I.ok.mod.kin J hm.at_ hm.fn (thn (run_TA (us := [.ref p, v]) (vs := [.ref p, vx]) F (sub_in0 hr) (fun e s' q => hx pins σ H s e s' I sl q) I (.cons rfl (.cons r1 .nil)) (rps_two .ref rx) hR h) fun u' s1 ⟨w, H1, I1, r1, d, A2, k1, rd, hr2, n, ed, q⟩ => ?_)
  subst ed
  cases rd
  cases r1
  exact wpAny_truthy_bool ⟨.bl (!n), H1, I1, rfl, .bl (!n), A2, k1, .bl, hr2, q⟩
/-- p != q, p and q of a class that is compared by what it is -/
theorem opd_neI (B : ByIs X.K C) (hu : X.A.units + 1 < cLine) (it : InsC X.K A p C) (it2 : InsC X.K A q C) (h : Q (.bl (!decide (p = q))) A) : OpD X δ (compareOp .NotEq) (.ref p) (.ref q) A Q := fun pins s σ H vx vy v u I sl hR rx ry r1 r2 => by
  cases rx; cases ry
  obtain rfl := vref r1
  obtain rfl := vref r2
  obtain ⟨ox, od, J⟩ := ins_at I it hR
  obtain ⟨oy, od2, J2⟩ := ins_at I it2 hR
  refine ne_isK hu I.kIn J J2 B J.at_ J2.at_ (by rw [J.cls]; intro z; cases z) (by rw [J2.cls]; intro z; cases z) ?_
  exact ⟨.bl _, H, I, rfl, _, A, Kp.refl H, .bl, hR, h⟩
/-- name op= e -/
theorem SC.aug {s : Str} {i : Nat} {pos' : Pos} {op : Operator} (B : SC X N sc) (hN : N[i]? = some s) (hl : Loc sc s) (hd : δ[i]? = some (some d)) (h : WPE X e δ A fun y A1 => OpD X δ (inplaceOp op) d y A1 fun z A2 => D.nx (δ.set i (some z)) A2) : WPS X (.AugAssign (.Name s pos') op e pos) δ A D := fun σ H sl r pins st I => by
  obtain ⟨v, e1, rv⟩ := sl.at_ i d hd
  have hN' : X.N[i]? = some s := by rw [B.n]; exact hN
  have hx : Loc X.env.scope s := by rw [B.sc]; exact hl
  obtain ⟨m, hn, hl2⟩ := I.loc
  have vis : Vis X.env.scope s := by rcases hx with k | k; exact .inl k; exact .inr (.inl k)
  obtain ⟨u, ru, l⟩ := hl2 i s v hN' e1 vis
  refine wpAny_AugAssign_Name ?_
  have go : wpAny (model X.prog X.w) X.A (eval e X.env) (fun w s₂ => wpAny (model X.prog X.w) X.A (inplaceOp op u w) (fun r s₃ => wpAny (model X.prog X.w) X.A (storeName X.env s r) (fun _ => SP X pins (LE X.K H D) .next) X.xe s₃) X.xe s₂) X.xe st :=
    thn (h σ H sl r pins st I) fun w s1 ⟨vy, H1, I1, r1, y, A1, k1, ry, hr1, q1⟩ => thn (q1 pins s1 σ H1 v vy u w I1 (sl.keep k1) hr1 (rv.keep k1) ry ru r1) fun z s2 ⟨vz, H2, I2, r2, zd, A2, k2, rz, hr2, q2⟩ =>
      store_ok I2 B.nd hN' hx r2 (fun s3 I3 => ⟨_, H2, I3, δ.set i (some zd), A2, k1.trans k2, (sl.keep (k1.trans k2)).set i rz, hr2, q2⟩) (.inl (B.fn s))
  rcases l with ⟨hk, hm⟩ | ⟨hk, c, hc, hcell⟩
  · exact wpAny_loadName_local I.ok.kind hk hn hm go
  · rcases hk with hk | hk
    · exact wpAny_loadName_cell I.ok.kind hk hc hcell go
    · rcases hx with k | k
      · have : X.env.scope.names.lookup s = some .free := hk
        rw [k] at this; cases this
      · have : X.env.scope.names.lookup s = some .free := hk
        rw [k] at this; cases this
end
end TL
/-! own classes: truth, making with stars, classmethods, isinstance -/
namespace TL
open PySem PySem.Spec PyProof.Rows L2
section
variable {X : Cx} {N : List Str} {sc : Scope} {e a b c o i_ v_ : Expr} {es : List Expr} {st : Stmt} {δ : Ds} {A : AH} {Q : TQ} {D : TEnds} {d x y z : TL.D} {pos apos p_ : Pos}
variable {k : Nat} {f C p q : Addr} {tp : TSp} {ET : TXQ} {m : Str} {pins : List (Addr × Obj)} {σ : St} {H : Hp} {s : Shared}
theorem boolBack_tp {Q : BQ} {u : Value} {s : Shared} (h : EP X pins σ (LQ X.K H fun d A2 => ∃ n, d = .bl n ∧ Q n A2) u s) : PySem.W.BoolBack (TP X pins σ (LB X.K H Q)) u s := by
  obtain ⟨v, H1, I1, r1, d, A2, k1, rd, hr2, n, ed, q⟩ := h
  subst ed
  cases rd
  cases r1
  exact ⟨H1, I1, A2, k1, hr2, q⟩
/-- a test of an own instance with __bool__ -/
theorem wpt_truO {Q : BQ} (hm : Meth X.K C "__bool__" f) (F : FnT X.prog X.w X.K X.mg X.base k f tp) (hr : Room k X.A) (hx : PassD X δ ET) (h : WPE X e δ A fun x A1 => ∃ p, x = .ref p ∧ InsC X.K A1 p C ∧ tp [.ref p] A1 (fun d A2 => ∃ n, d = .bl n ∧ Q n A2) ET)
    (he : ∀ whole, isTrue e X.env whole = (do let v ← whole; standAt e.pos; holding [v] (truthy v)) := by intro _; rfl) : WPT X e δ A Q := fun σ H sl r pins s I => by
  refine isTrue_plain (thn (h σ H sl r pins s I) fun v s1 ⟨vx, H1, I1, r1, x, A1, k1, rx, hr1, p, ex, it, q⟩ => ?_) (he _)
  subst ex
  cases rx
  obtain rfl := vref r1
  obtain ⟨ox, od, J⟩ := ins_at I1 it hr1
  obtain ⟨m, hF⟩ := I1.fr
  refine PySem.W.truthy_K hF I1.ok.mod.kin J hm.at_ hm.fn (thn (run_TA (us := [.ref p]) (vs := [.ref p]) F (sub_in0 hr) (fun e s' q => hx pins σ H1 s1 e s' I1 (sl.keep k1) q) I1 (.cons rfl .nil) (rps_one .ref) hr1 q) fun u' s2 q2 => ?_)
  obtain ⟨v, H2, I2, r2, d, A2, k2, rd, hr2, n, ed, q3⟩ := q2
  subst ed
  cases rd
  cases r2
  exact ⟨H2, I2, A2, k1.trans k2, hr2, q3⟩
/-- not o -/
theorem wpe_notO (hm : Meth X.K C "__bool__" f) (F : FnT X.prog X.w X.K X.mg X.base k f tp) (hr : Room k X.A) (hx : PassD X δ ET) (h : WPE X e δ A fun x A1 => ∃ p, x = .ref p ∧ InsC X.K A1 p C ∧ tp [.ref p] A1 (fun d A2 => ∃ n, d = .bl n ∧ Q (.bl (!n)) A2) ET) : WPE X (.UnaryOp .Not e pos) δ A Q := fun σ H sl r pins s I => by
  refine UnaryOp_ (thn (h σ H sl r pins s I) fun v s1 ⟨vx, H1, I1, r1, x, A1, k1, rx, hr1, p, ex, it, q⟩ => ?_)
  subst ex
  cases rx
  obtain rfl := vref r1
  obtain ⟨ox, od, J⟩ := ins_at I1 it hr1
  obtain ⟨m, hF⟩ := I1.fr
  refine not_of (PySem.W.truthy_K hF I1.ok.mod.kin J hm.at_ hm.fn (thn (run_TA (us := [.ref p]) (vs := [.ref p]) F (sub_in0 hr) (fun e s' q => hx pins σ H1 s1 e s' I1 (sl.keep k1) q) I1 (.cons rfl .nil) (rps_one .ref) hr1 q) fun u' s2 q2 => ?_))
  obtain ⟨v, H2, I2, r2, d, A2, k2, rd, hr2, n, ed, q3⟩ := q2
  subst ed
  cases rd
  cases r2
  exact ⟨.bl (!n), H2, I2, rfl, .bl (!n), A2, k1.trans k2, .bl, hr2, q3⟩
/-- bool(o) -/
theorem bool_new_in {prog : Program} {w : World} {x : Addr} : MeetsIn prog w (Builtin.«bool.__new__» ⟨[.type "bool", .ref x], []⟩) (fun A R s => wpAny (model prog w) A.in1 (truthy (.ref x)) (fun b s' => R (.ok (.ret (.bool b))) s') (fun e s' => R (.error e) s') s) :=
  .of_wp fun A R s h => by
    have hsub := F.called_bool.sub
    obtain ⟨hp, g, d, tk, os⟩ := s
    have htr : ∀ {Q' : Bool → Shared → Prop}, (∀ b s', R (.ok (.ret (.bool b))) s' → Q' b s') → wpAny (model prog w) A.in1 (truthy (.ref x)) Q' (fun e s' => R (.error e) s') (Shared.mk hp g d tk os) := fun k => wpAny_mono h k fun _ _ z => z
    have f1 := F.conv_sub_bool
    repeat (any_goals (first | assumption | (with_reducible refine htr fun b s' hb => ?_) | wp_step))
    all_goals first | exact ⟨_, rfl, hb⟩ | exact hb | skip
theorem caw_boolO (hm : Meth X.K C "__bool__" f) (F : FnT X.prog X.w X.K X.mg X.base k f tp) (hr : Room (k + 2) X.A) (it : InsC X.K A p C)
    (h : tp [.ref p] A (fun d A2 => ∃ n, d = .bl n ∧ Q (.bl n) A2) NoX) : CaW X (.type "bool") [.ref p] A Q := by
  refine ⟨fun vs H R => vs = [.ref p] ∧ HR X.K A H ∧ ∀ v H' d A', Kp X.K H H' → Rp X.K H' v d → HR X.K A' H' → Q d A' → R v H', ?_, fun H vs hR rps R hq => ?_⟩
  · intro pins s σ H xs us R I rv ⟨e, hR, hq⟩
    subst e
    obtain rfl := Vals.ref1 rv
    obtain ⟨ox, od, J⟩ := ins_at I it hR
    obtain ⟨m, hF⟩ := I.fr
    refine callType_newIn PySem.F.called_bool PySem.F.newNe_bool (PySem.F.typeCall_bool_1 _) (PySem.F.newCall_bool_1 _) (fun obj => PySem.F.args_object_init_2 obj _) PySem.F.entry_bool_new bool_new_in ?_
    refine PySem.W.truthy_K hF I.ok.mod.kin J hm.at_ hm.fn (thn (run_TA (us := [.ref p]) (vs := [.ref p]) F (sub_in2 hr) (fun e s' q => (noX q).elim) I (.cons rfl .nil) (rps_one .ref) hR h) fun u' s2 q2 => ?_)
    obtain ⟨v, H2, I2, r2, d, A2, k2, rd, hr2, n, ed, q3⟩ := q2
    subst ed
    cases rd
    cases r2
    exact ⟨rfl, .bl n, H2, I2, rfl, hq _ H2 _ A2 k2 .bl hr2 q3⟩
  · obtain ⟨v, rfl, hv⟩ := rps1 rps
    cases hv
    exact ⟨rfl, hR, hq⟩
/-- C(e, *f, ..) -/
theorem BC.makeS2 {x : Str} (B : BC X N sc) (M : Mk X.K C f) (F : FnT X.prog X.w X.K X.mg X.base k f tp) (hr : Room (k + 1) X.A) (hg : sc.names.lookup x = some .globalImplicit) (hm : X.mg x = some (.ref C)) (hx : PassD X δ ET)
    (h : WPA X (e :: es) δ A fun ds A1 => ∀ p, A1 p = none → tp (.ref p :: ds) (updA A1 p (.prim (.ins C []))) (fun d A2 => d = .non ∧ Q (.ref p) A2) ET) (hdb : (x == ("__debug__" : Str)) = false := by decide)
    (he : starEach (e :: es) X.env = (false, eval e X.env) :: starEach es X.env := by rfl) (hst : (backTo pos (starEach es X.env)).any (·.1) = true := by rfl) : WPE X (.Call (.Name x p_) (e :: es) [] pos) δ A Q := fun σ H sl r pins s I => by
  refine wpAny_Call_Name_kw (ld_glob I (B.gl hg) hm ?_ hdb)
  refine PySem.W.callWith_S2 (h₀ := X.base) I.ok.mod.kin M.kp (thn (h σ H sl r pos pins s I) fun us s1 ⟨vs, H1, I1, rv, ds, A1, k1, rps, hr1, q⟩ => ⟨I1.kIn, ?_⟩) he hst
  exact thn (run_makeT M F hr hx (sl.keep k1) I1 rv rps hr1 q) fun u s' => EP.from k1
/-- c(e, ..), c a name that holds the class -/
theorem BC.makeL {x : Str} {i : Nat} (B : BC X N sc) (M : Mk X.K C f) (F : FnT X.prog X.w X.K X.mg X.base k f tp) (hr : Room (k + 1) X.A) (hN : N[i]? = some x) (hd : δ[i]? = some (some (.ref C))) (hv : Vis sc x) (hx : PassD X δ ET)
    (h : WPA X (e :: es) δ A fun ds A1 => ∀ p, A1 p = none → tp (.ref p :: ds) (updA A1 p (.prim (.ins C []))) (fun d A2 => d = .non ∧ Q (.ref p) A2) ET) (hdb : (x == ("__debug__" : Str)) = false := by decide) (hcd : (x == ("__classdict__" : Str)) = false := by decide)
    (he : starEach (e :: es) X.env = (false, eval e X.env) :: starEach es X.env := by rfl) (hpl : (backTo pos (starEach es X.env)).any (·.1) = false := by rfl) : WPE X (.Call (.Name x p_) (e :: es) [] pos) δ A Q := fun σ H sl r pins s I => by
  obtain ⟨v, hs, rv⟩ := sl.at_ i _ hd
  cases rv
  refine wpAny_Call_Name_kw (thn ((pe_var (pos := p_) (by rw [B.n]; exact hN) (B.vis _ hv) hdb hcd).run pins s σ H (fun v H1 => v = .ref C ∧ H1 = H) I ⟨.ref C, hs, rfl, rfl⟩) fun u s1 ⟨v, H1, I1, r1, q1⟩ => ?_)
  obtain ⟨rfl, rfl⟩ := q1
  cases r1
  refine PySem.W.callWith_K (h₀ := X.base) I.ok.mod.kin M.kp (thn (h σ _ sl r pos pins s1 I1) fun us s2 ⟨vs, H2, I2, rv, ds, A1, k1, rps, hr1, q⟩ => ⟨I2.kIn, ?_⟩) he hpl
  exact thn (run_makeT M F hr hx (sl.keep k1) I2 rv rps hr1 q) fun u s' => EP.from k1
/-- c(e, *f), c a name that holds the class -/
theorem BC.makeLS {x : Str} {i : Nat} (B : BC X N sc) (M : Mk X.K C f) (F : FnT X.prog X.w X.K X.mg X.base k f tp) (hr : Room (k + 1) X.A) (hN : N[i]? = some x) (hd : δ[i]? = some (some (.ref C))) (hv : Vis sc x) (hx : PassD X δ ET)
    (h : WPA X (e :: es) δ A fun ds A1 => ∀ p, A1 p = none → tp (.ref p :: ds) (updA A1 p (.prim (.ins C []))) (fun d A2 => d = .non ∧ Q (.ref p) A2) ET) (hdb : (x == ("__debug__" : Str)) = false := by decide) (hcd : (x == ("__classdict__" : Str)) = false := by decide)
    (he : starEach (e :: es) X.env = (false, eval e X.env) :: starEach es X.env := by rfl) (hst : (backTo pos (starEach es X.env)).any (·.1) = true := by rfl) : WPE X (.Call (.Name x p_) (e :: es) [] pos) δ A Q := fun σ H sl r pins s I => by
  obtain ⟨v, hs, rv⟩ := sl.at_ i _ hd
  cases rv
  refine wpAny_Call_Name_kw (thn ((pe_var (pos := p_) (by rw [B.n]; exact hN) (B.vis _ hv) hdb hcd).run pins s σ H (fun v H1 => v = .ref C ∧ H1 = H) I ⟨.ref C, hs, rfl, rfl⟩) fun u s1 ⟨v, H1, I1, r1, q1⟩ => ?_)
  obtain ⟨rfl, rfl⟩ := q1
  cases r1
  refine PySem.W.callWith_S2 (h₀ := X.base) I.ok.mod.kin M.kp (thn (h σ _ sl r pos pins s1 I1) fun us s2 ⟨vs, H2, I2, rv, ds, A1, k1, rps, hr1, q⟩ => ⟨I2.kIn, ?_⟩) he hst
  exact thn (run_makeT M F hr hx (sl.keep k1) I2 rv rps hr1 q) fun u s' => EP.from k1
/-- C.m(e, ..), m a classmethod of the class -/
theorem wpe_cmeth {mc : Value} {pa g : Addr} {pl : Sem Bool} (r0 : ClX.CRead X.K C mc) (c : ClX.CMet X.K C mc m pa g) (F : FnT X.prog X.w X.K X.mg X.base k g tp) (hr : Room k X.A) (hx : PassD X δ ET)
    (h : WPE X o δ A fun x A1 => x = .ref C ∧ WPA X (e :: es) δ A1 fun ds A2 => tp (.ref C :: ds) A2 Q ET)
    (hst : starEach (e :: es) X.env = (false, eval e X.env) :: starEach es X.env := by rfl) (hpl : (backTo pos (starEach es X.env)).any (·.1) = false := by rfl)
    (ht : eval (.Call (.Attribute o m apos) (e :: es) [] pos) X.env = (do
      let ov ← eval o X.env
      standAt apos.atName
      let (f, first) ← holding [ov] (getMethod ov m pl)
      callWith pos f first (backTo pos (starEach (e :: es) X.env)) (backToKw pos (keywordEach [] X.env))) := by rfl) : WPE X (.Call (.Attribute o m apos) (e :: es) [] pos) δ A Q := fun σ H sl r pins s I => by
  refine PySem.W.methodCall_KW (pl := pl) (thn (h σ H sl r pins s I) fun u s1 ⟨v, H1, I1, r1, d, A1, k1, rp, hr1, ed, q⟩ => ?_) ht
  subst ed
  cases rp
  obtain rfl := vref r1
  refine ClX.getmethcm_ok I1 r0 c fun s2 I2 => ?_
  refine ClX.callwith_cm I2 (ClX.base_none I1 (Nat.le_refl _)) c.fi (thn (q σ H1 (sl.keep k1) hr1 pos _ s2 I2) fun us s3 ⟨vs, H2, I3, rv, ds, A2, k2, rps, hr2, q2⟩ => ⟨⟨ClX.pin_at I3, I3.kIn⟩, ?_⟩) hst hpl
  have z : wpAny (model X.prog X.w) X.A (call (.ref s1.heap.objs.size) us) (EP X ((s1.heap.objs.size, PySem.W.methodObj (.ref g) (.ref C)) :: pins) σ (LQ X.K H Q)) X.xe s3 := by
    refine wpAny_call (PySem.W.method_call (ClX.pin_at I3) (codeAny_mono (F X.A X.stack s3 H2 (.ref C :: us) (.ref C :: vs) (LQ X.K H2 Q) (EXT X.K H2 ET) hr I3.env0 (.cons rfl rv) ⟨.ref C :: ds, A2, Q, ET, .cons .ref rps, hr2, q2, fun _ _ q => q, fun _ _ _ q => q⟩) fun rr s' hq => ?_))
    cases rr with
    | error e => exact hx _ σ H2 s3 e s' I3 ((sl.keep k1).keep k2) hq
    | ok fl =>
      cases fl with
      | ret u => exact EP.from (k1.trans k2) (I3.after hq)
      | next => exact hq.elim
      | brk => exact hq.elim
      | cont => exact hq.elim
  exact thn z fun _ _ y => ClX.unpinE y
/-- what isinstance asks of an own class -/
structure IsI (K : PySem.W.Frag) (C : Addr) : Prop where
  ha : PySem.W.findIn K (.ref C) "__class__" = some (some (.builtin "object.__class__"))
  hn : PySem.W.specialIn K (.builtin "object.__class__") "__get__" = some (some (.builtin "getset_descriptor.__get__"))
  htk : PySem.W.takesIn K (.builtin "object.__class__") = some true
  hm : PySem.W.mroIn K C (.type "object") = some true
  kit : PySem.W.kitOne K (.ref C) (.ref C) = some true
/-- isinstance(o, C), o of the class C -/
theorem cav_isI (cl : Cls X.K C) (i : IsI X.K C) (it : InsC X.K A p C) : CaV X (.builtin "isinstance") [.ref p, .ref C] A (.bl true) := cav_of call_isi fun A1 k H vs hr rps R q => by
  cases rps with
  | cons r1 t =>
    obtain ⟨w, rfl, r2⟩ := rps1 t
    cases r1; cases r2
    have hr' := hr.sub k
    obtain ⟨dx, gs, e⟩ := it H hr'
    exact ⟨_, _, _, _, true, rfl, .own C, .base (.ins e cl i.ha i.hn i.htk i.hm), i.kit, q _ .bl⟩
end
end TL
/-! own comparisons -/
namespace TL
open PySem PySem.Spec PyProof.Rows L2 PySem.SeqAt
theorem notFirst_self {K : PySem.W.Frag} {C : Addr} : PySem.W.notFirst K C (.ref C) = true := by
  unfold PySem.W.notFirst
  simp
section
variable {prog : Program} {w : World} {A : Around} {E : Value → Shared → Prop} {s : Shared} {K : PySem.W.Frag} {x y C f : Addr} {ox oy : Obj} {od od2 : Option Obj}
theorem oNe_own {b : Value} {Q : PySem.Fin → Shared → Prop} (hu : A.units < cLine) (X : K.In s.heap) (I : PySem.W.InstAt s.heap x ox C od) (hs : PySem.W.findIn K (.ref C) "__eq__" = some (some (.ref f))) (hf : PySem.W.isFn K (.ref f) = true)
    (h : wpAny (model prog w) A (call (.ref f) [.ref x, b]) (fun r s' => ∃ n, r = .bool n ∧ Q (.done (.ret (.bool (!n)))) s') E s) : wpAny (model prog w) A (Builtin.«object.__ne__» ⟨[.ref x, b], []⟩) Q E s := by
  have one : wpAny (model prog w) A (callSpecialIfBound? (.ref x) "__eq__" [b]) (fun r s' => ∃ n, r = some (.bool n) ∧ Q (.done (.ret (.bool (!n)))) s') E s :=
    PySem.W.ifBound_K X I hs hf (wpAny_mono h (fun v s' ⟨n, e, q⟩ => ⟨n, congrArg some e, q⟩) fun _ _ z => z)
  unfold Builtin.«object.__ne__»
  repeat (first | with_reducible refine wpAny_cRoomFor hu ?_ | with_reducible refine wpAny_bind (wpAny_mono one (fun r s' hr => ?_) fun _ _ z => z) | wp_step)
  all_goals first
    | (obtain ⟨n, rfl, q⟩ := hr
       exact wpAny_bind (wpAny_truthy_bool (wpAny_pure q)))
    | skip
theorem ne_own {Q : Value → Shared → Prop} (hu : A.units + 1 < cLine) (X : K.In s.heap) (I : PySem.W.InstAt s.heap x ox C od) (hm : PySem.W.mroIn K C (.type "object") = some true) (hn : PySem.W.findIn K (.ref C) "__ne__" = some (some (.builtin "object.__ne__")))
    (hs : PySem.W.findIn K (.ref C) "__eq__" = some (some (.ref f))) (hf : PySem.W.isFn K (.ref f) = true) (J : PySem.W.InstAt s.heap y oy C od2)
    (h : wpAny (model prog w) A.in1 (call (.ref f) [.ref x, .ref y]) (fun r s' => ∃ n, r = .bool n ∧ Q (.bool (!n)) s') E s) : wpAny (model prog w) A (compareOp .NotEq (.ref x) (.ref y)) Q E s := by
  show wpAny (model prog w) A (richCompare .NotEq (.ref x) (.ref y)) Q E s
  have hu0 : A.units < cLine := Nat.lt_of_succ_lt hu
  have try_ : wpAny (model prog w) A (tryCompare (.ref x) "__ne__" (.ref y)) (fun r s' => ∃ v, r = some v ∧ Q v s') E s := by
    unfold tryCompare
    refine wpAny_bind (ifBound_oNe X I hn (wpAny_mono (Q := fun v s' => ∃ n, v = .bool n ∧ Q v s') (wpAny_call (codeAny_call_builtin F.cmp_object.ne.plain F.cmpEntry_ne (PySem.W.check_slot F.cmpKind_ne F.cmpSplit_ne (I.type.andThen (PySem.W.looks_mroIn X hm)) (F.cmpArgs_ne _ _)
      (oNe_own (A := A.in1) hu X I hs hf (wpAny_mono h (fun r s' ⟨n, e, q⟩ => ⟨n, e, ⟨!n, rfl, q⟩⟩) fun _ _ z => z))))) (fun v s' ⟨n, e, q⟩ => ?_) fun _ _ z => z))
    subst e
    exact wpAny_pure ⟨_, rfl, q⟩
  simp only [richCompare, cmpInfo_NotEq, oneThing_ref]
  refine wpAny_holding (wpAny_bind (wpAny_cRoomFor hu0 ?_))
  refine wpAny_bind (I.type.here ?_)
  refine wpAny_bind (J.type.here ?_)
  rw [if_neg (by simp)]
  refine wpAny_bind (wpAny_pure ?_)
  simp only [Bool.false_eq_true, if_false, Bool.not_false, if_true]
  refine wpAny_bind (wpAny_mono try_ (fun r s' ⟨v, e, q⟩ => ?_) fun _ _ z => z)
  subst e
  exact wpAny_pure q
end
section
variable {X : Cx} {δ : Ds} {A : AH} {Q : TQ} {x : TL.D} {k : Nat} {f C p q : Addr} {tp : TSp} {ET : TXQ} {m : Str}
/-- p op q, both of the class, the class's own method -/
theorem opd_cmp {op : CmpOp} (hop : ∀ a b, compareOp op a b = richCompare op a b) (hm : Meth X.K C m f) (F : FnT X.prog X.w X.K X.mg X.base k f tp) (hr : Room k X.A) (hx : PassD X δ ET) (it : InsC X.K A p C) (it2 : InsC X.K A q C)
    (h : tp [.ref p, .ref q] A Q ET) (em : (cmpInfo op).2.1 = m := by rfl) : OpD X δ (compareOp op) (.ref p) (.ref q) A Q := fun pins s σ H vx vy v u I sl hR rx ry r1 r2 => by
  cases rx; cases ry
  obtain rfl := vref r1
  obtain rfl := vref r2
  obtain ⟨ox, od, J⟩ := ins_at I it hR
  obtain ⟨oy, od2, J2⟩ := ins_at I it2 hR
  obtain ⟨mm, hF⟩ := I.fr
  rw [hop]
  refine PySem.W.cmp_K (op := op) (tb := .ref C) hr.units0 hF I.ok.mod.kin J J2.type notFirst_self (by rw [em]; exact hm.at_) hm.fn (thn (run_TA (us := [.ref p, .ref q]) (vs := [.ref p, .ref q]) F (sub_in0 hr) (fun e s' q => hx pins σ H s e s' I sl q) I (.cons rfl (.cons rfl .nil)) (rps_two .ref .ref) hR h) fun u' s1 q1 => cmpBack_ep q1)
/-- what != asks where == alone is the class's own -/
structure NeO (K : PySem.W.Frag) (C : Addr) : Prop where
  mro : PySem.W.mroIn K C (.type "object") = some true
  ne : PySem.W.findIn K (.ref C) "__ne__" = some (some (.builtin "object.__ne__"))
/-- p != q by the class's own == -/
theorem opd_neO (N : NeO X.K C) (hm : Meth X.K C "__eq__" f) (F : FnT X.prog X.w X.K X.mg X.base k f tp) (hr : Room (k + 1) X.A) (hu : X.A.units + 1 < cLine) (hx : PassD X δ ET) (it : InsC X.K A p C) (it2 : InsC X.K A q C)
    (h : tp [.ref p, .ref q] A (fun d A2 => ∃ n, d = .bl n ∧ Q (.bl (!n)) A2) ET) : OpD X δ (compareOp .NotEq) (.ref p) (.ref q) A Q := fun pins s σ H vx vy v u I sl hR rx ry r1 r2 => by
  cases rx; cases ry
  obtain rfl := vref r1
  obtain rfl := vref r2
  obtain ⟨ox, od, J⟩ := ins_at I it hR
  obtain ⟨oy, od2, J2⟩ := ins_at I it2 hR
  refine ne_own hu I.kIn J N.mro N.ne hm.at_ hm.fn J2 (thn (run_TA (us := [.ref p, .ref q]) (vs := [.ref p, .ref q]) F (sub_in1 hr) (fun e s' q => hx pins σ H s e s' I sl q) I (.cons rfl (.cons rfl .nil)) (rps_two .ref .ref) hR h) fun u' s1 ⟨w, H1, I1, r1, d, A2, k1, rd, hr2, n, ed, q⟩ => ?_)
  subst ed
  cases rd
  cases r1
  exact ⟨n, rfl, .bl (!n), H1, I1, rfl, .bl (!n), A2, k1, .bl, hr2, q⟩
end
def ckNeO (C : Str) : Chk := fun K => decide (PySem.W.mroIn K (He.ga K C) (.type "object") = some true) && He.eqO (PySem.W.findIn K (.ref (He.ga K C)) "__ne__") (some (some (.builtin "object.__ne__")))
theorem ckNeO_ok {C : Str} {K : PySem.W.Frag} (c : ckNeO C K = true) : NeO K (He.ga K C) := by
  obtain ⟨c1, c2⟩ := Bool.and_eq_true_iff.mp c
  exact ⟨of_decide_eq_true c1, He.eqO_ok c2⟩
end TL
/-! a new list's item; the empty tuple as a default -/
namespace TL
open PySem PySem.Spec PyProof.Rows L2
theorem wpe_ixL {X : Cx} {a b : Expr} {δ : Ds} {A : AH} {Q : TQ} {pos : Pos} (h : WPE X a δ A fun x A1 => WPE X b δ A1 fun y A2 => ∃ p xs i z, x = .ref p ∧ y = .int i ∧ RdL X.K A2 p xs ∧ atI xs i = some z ∧ Q z A2) (hs : PlainIx b := by exact fun _ _ => rfl) : WPE X (.Subscript a b pos) δ A Q := fun σ H s r =>
  runE.of (pe_ix ix_list pe_run pe_run hs) (runE.mono (wpe_two h s r) fun vx H1 h => runE.mono h fun vy H2 ⟨x, y, A2, k, rx, ry, hr, p, xs, i, z, ex, ey, hp, hi, q⟩ => by
    subst ex ey
    cases rx; cases ry
    obtain ⟨vs, h1, h2⟩ := hp.sq hr
    obtain ⟨v, e, rv⟩ := atI_rp h2 hi
    exact ⟨p, vs, i, v, rfl, rfl, h1, e, z, A2, k, rv, hr, q⟩)
/-- a keyword-only parameter's default, an object -/
def kwA (f : Str × Option Str) (nk : Str) (K : PySem.W.Frag) : Addr := match K.lookup (He.fAd K f) with
  | some ⟨_, _, .func fd, _⟩ => (match fd.kwdefaults with
    | .ref D => (match PySem.W.nsIn K D nk with
      | some (some (.ref a)) => a
      | _ => 0)
    | _ => 0)
  | _ => 0
def ckEm (p : PySem.W.Frag → Addr) : Chk := fun K => match K.lookup (p K) with
  | some o => o.cls == .type "tuple" && (match o.data with
    | .seq its _ => its.toList.isEmpty
    | _ => false)
  | none => false
theorem ckEm_ok {p : PySem.W.Frag → Addr} {K : PySem.W.Frag} (c : ckEm p K = true) : EmT K (p K) := by
  unfold ckEm at c
  cases h : K.lookup (p K) with
  | none => rw [h] at c; cases c
  | some o =>
    rw [h] at c
    obtain ⟨c1, c2⟩ := Bool.and_eq_true_iff.mp c
    obtain ⟨oc, od, dt, sl⟩ := o
    cases dt with
    | seq its n => exact ⟨_, its, n, h, eq_of_beq c1, rfl, List.isEmpty_iff.mp c2⟩
    | _ => cases c2
theorem Paired.set_ {α β : Type} {F : α → β → Prop} {x : α} {y : β} (h : F x y) : ∀ {xs : List α} {ys : List β} (j : Nat), Paired F xs ys → Paired F (xs.set j x) (ys.set j y)
  | _, _, _, .nil => .nil
  | _, _, 0, .cons _ t => .cons h t
  | _, _, j + 1, .cons a t => .cons a (Paired.set_ h j t)
section
variable {X : Cx} {o i_ v_ : Expr} {δ : Ds} {A : AH} {pos pos' : Pos} {d : TL.D} {D : TEnds}
/-- l[i] = v -/
theorem wpg_lput {M : Ds → AH → Prop} (h : WPE X o δ A fun x A2 => WPE X i_ δ A2 fun y A3 => ∃ l xs k j, x = .ref l ∧ y = .int k ∧ A3 l = some (.prim (.lst xs)) ∧ ixN xs.length k = some j ∧ M δ (updA A3 l (.prim (.lst (xs.set j d)))))
    (ha : ∀ v, assign (.Subscript o i_ pos) X.env v = (do
      let ov ← holding [v] (eval o X.env)
      let iv ← holding [v, ov] (eval i_ X.env)
      standAt pos
      holding [v, ov, iv] (setItem ov iv v)
      release [v, ov, iv] []) := by intro _; rfl) : WPG X (.Subscript o i_ pos) d δ A M := fun v σ H rp sl r pins s' u I rv =>
  (pg_sub pe_run pe_run set_list ha).run pins s' σ H v u _ I rv (runE.mono (wpe_two h sl r) fun vx H1 h => runE.mono h fun vy H2 ⟨x, y, A3, k, rx, ry, hr, l, xs, kk, j, ex, ey, hl, hj, q⟩ => by
    subst ex ey
    cases rx; cases ry
    obtain ⟨vs, h1, h2⟩ := hr.at_ hl
    obtain ⟨k2, hr'⟩ := hr_write (m' := .lst (xs.set j d)) (u' := .lst (vs.set j v)) hr hl h1 (by intro _ z; cases z) (by intro _ _ z; cases z) fun k2 => ⟨_, upd_same, Paired.set_ ((rp.keep k).keep k2) j (Rps.keep h2 k2)⟩
    exact ⟨l, vs, kk, j, rfl, rfl, h1, by rw [Paired.length h2]; exact hj, δ, _, k.trans k2, sl.keep (k.trans k2), hr', q⟩)
end
end TL
/-! o.m(*e); f(a, *e) -/
namespace TL
open PySem PySem.Spec PyProof.Rows L2
section
variable {X : Cx} {N : List Str} {sc : Scope} {e o : Expr} {es : List Expr} {δ : Ds} {A : AH} {Q : TQ} {pos apos kp : Pos}
/-- o.m(*e), e a tuple -/
theorem wpe_methS {m : Str} {k : Nat} {g C p : Addr} {tp : TSp} {ET : TXQ} {xs : List TL.D} (cl : Cls X.K C) (b : BMeth X.K C m g) (F : FnT X.prog X.w X.K X.mg X.base k g tp) (hr : Room k X.A) (hx : PassD X δ ET) (ho : Ev X o δ A (.ref p)) (it : InsT X.K A p C m) (ha : Ev X e δ A (.tup xs)) (h : tp (.ref p :: xs) A Q ET)
    (hst : backTo pos (starEach [.Starred e kp] X.env) = [(true, (do let v ← eval e X.env; standAt pos; pure v))] := by rfl) (hb : attributeBase o m X.env (eval o X.env) = eval o X.env := by rfl) (hf : methodCallForm ([Expr.Starred e kp].length + ([] : List Keyword).length) (backTo pos (starEach [.Starred e kp] X.env)) [] = false := by rfl) (hany : (backTo pos (starEach [.Starred e kp] X.env)).any (·.1) = true := by rfl) : WPE X (.Call (.Attribute o m apos) [.Starred e kp] [] pos) δ A Q := fun σ H sl r pins s I => by
  refine starcall_of hb hf (thn (ho A (Sub.refl A) (fun x A1 => x = .ref p ∧ A1 = A) ⟨rfl, rfl⟩ σ H sl r pins s I) fun u s1 ⟨v, H1, I1, rx, d, A1, k1, rp, hr1, e1, e2⟩ => ?_)
  subst e1 e2
  cases rp
  obtain rfl : u = Value.ref p := rx
  obtain ⟨dx, gs, ea, l⟩ := it H1 hr1
  refine getbound_ok I1 ea cl b l fun q1 s2 hq1 I2 => ?_
  have ex := ex_upd (o := .met g p) hq1
  have kk : Kp X.K H1 (upd H1 q1 (.met g p)) := kp_ex ex
  have fA : A1 q1 = none := hr1.free hq1
  have hr2 : HR X.K (updA A1 q1 (.prim (.raw (.met g p)))) (upd H1 q1 (.met g p)) := hr1.new (o := .raw (.met g p)) hq1 kk ex upd_same
  refine PySem.W.ks_call (P := PySem.W.MethP X.K q1 g (.ref p)) hany (PySem.W.keeps_M b.fi) ?_
  rw [hst]
  refine PySem.W.ks_lone (thn (ha _ (Sub.upd (Sub.refl A1) fA) (fun x A2 => x = .tup xs ∧ A2 = updA A1 q1 (.prim (.raw (.met g p)))) ⟨rfl, rfl⟩ σ _ (sl.keep (k1.trans kk)) hr2 pins s2 I2) fun u3 s3 ⟨v3, H3, I3, rx3, x3, A3, k3, rp3, hr3, e3, e4⟩ => ?_)
  subst e3 e4
  obtain ⟨a3, vs, rfl, hseq, rps⟩ := rp3.tup_inv
  obtain rfl : u3 = Value.ref a3 := rx3
  refine StX.star_any I3 (.inl hseq) fun us s4 I4 rv => ?_
  have om : H3 q1 = some (.met g p) := hr3.at_ updA_same
  have hr4 := hr3.sub (Sub.upd (o := .prim (.raw (.met g p))) (Sub.refl A1) fA)
  have sl3 := ((sl.keep (k1.trans kk)).keep k3)
  refine ⟨met_P I4 om, wpAny_call (PySem.W.method_call (met_P I4 om).1 (codeAny_mono (F X.A X.stack s4 H3 (.ref p :: us) (.ref p :: vs) (LQ X.K H3 Q) (EXT X.K H3 ET) hr I4.env0 (.cons rfl rv) ⟨.ref p :: xs, A1, Q, ET, .cons .ref rps, hr4, h, fun _ _ q => q, fun _ _ _ q => q⟩) fun r s' hq => ?_))⟩
  cases r with
  | error e => exact hx pins σ H3 s4 e s' I4 sl3 hq
  | ok fl =>
    cases fl with
    | ret u => exact EP.from ((k1.trans kk).trans k3) (I4.after hq)
    | next => exact hq.elim
    | brk => exact hq.elim
    | cont => exact hq.elim
end
end TL
/-! o.m(*e, nm = v) -/
namespace TL
open PySem PySem.Spec PyProof.Rows L2
section
variable {M : Model} {A : Around} {E : Value → Shared → Prop} {s : Shared}
/-- the arguments: one with a star, and keywords -/
theorem args_loneK {f : Value} {x : Sem Value} {kws : List (Option Str × Sem Value)} {Q : Args → Shared → Prop} (ha : kws.all (·.1.isSome) = true)
    (h : wpAny M A x (fun v s₁ => wpAny M A (evalAll (kws.map (·.2))) (fun ks s₂ => PySem.W.StarOf M A E v (fun vs s₃ => Q ⟨vs, (kws.filterMap (·.1)).zip ks⟩ s₃) s₂) E s₁) E s) :
    wpAny M A (evalArgs f true [(true, x)] kws) Q E s := by
  unfold evalArgs
  refine wpAny_bind (wpAny_mono h (fun v s₁ h₁ => wpAny_bind (wpAny_pure ?_)) fun _ _ x => x)
  refine wpAny_holding ?_
  simp only [ha, if_true]
  refine wpAny_bind (wpAny_mono h₁ (fun ks s₂ h₂ => ?_) fun _ _ x => x)
  unfold PySem.W.StarOf at h₂
  refine wpAny_bind (wpAny_bind (wpAny_mono h₂ (fun b s₃ h₃ => ?_) fun _ _ x => x))
  obtain ⟨rfl, h₃⟩ := h₃
  have z := wpAny_holding (vs := ((kws.filterMap (·.1)).zip ks).map (·.2)) (wpAny_mono h₃ (fun vs s₃ h₃ => (wpAny_pure h₃ : wpAny M A (pure (⟨vs, (kws.filterMap (·.1)).zip ks⟩ : Args)) Q E s₃)) fun _ _ x => x)
  try simp only [Bool.false_eq_true, if_false]
  first
    | exact z
    | exact wpAny_bind (wpAny_pure z)
    | exact wpAny_bind z
theorem call_loneK {f : Value} {first : List Value} {pos : Pos} {Q : Value → Shared → Prop} {P : Heap → Prop} {args : List (Bool × Sem Value)} {kws : List (Option Str × Sem Value)} (hst : args.any (·.1) = true)
    (hk : ∀ h, P h → ∃ k, (k = Keeper.frame ∨ k = Keeper.machine ∨ k = Keeper.boundFrame) ∧ PySem.W.Looks M h (keeperOf f) k)
    (h : wpAny M A (evalArgs f true args kws) (fun a s₁ => P s₁.heap ∧ wpAny M A (call f (first ++ a.pos) a.kw) Q E s₁) E s) : wpAny M A (callWith pos f first args kws) Q E s := by
  unfold callWith
  refine wpAny_bind (wpAny_holding (wpAny_mono h (fun a s₁ h₁ => wpAny_bind (wpAny_standAt ?_)) fun _ _ x => x))
  obtain ⟨k, hk', L⟩ := hk _ h₁.1
  simp only [hst, Bool.true_or]
  refine wpAny_bind (L.here ?_)
  have tail : ∀ {t : Sem Value}, wpAny M A t Q E s₁ → wpAny M A (t >>= fun r => holding [r] point >>= fun _ => pure r) Q E s₁ :=
    fun ht => wpAny_bind (wpAny_mono ht (fun r s₂ hr => wpAny_bind (wpAny_holding (wpAny_point (wpAny_pure hr)))) fun _ _ x => x)
  have marked (mk : Value) : wpAny M A (callMarked mk f (first ++ a.pos) a.kw) Q E s₁ := by unfold callMarked; exact PySem.Calls.wpAny_keep h₁.2
  rcases hk' with rfl | rfl | rfl <;> dsimp only <;> first | exact tail (marked _) | exact tail (wpAny_operating h₁.2)
theorem starcallK_of {B : Around} {env : Env} {o : Expr} {m : Str} {apos pos : Pos} {args : List Expr} {kws : List Keyword} {R : Value → Shared → Prop} (hb : attributeBase o m env (eval o env) = eval o env) (hf : methodCallForm (args.length + kws.length) (backTo pos (starEach args env)) (backToKw pos (keywordEach kws env)) = false)
    (h : wpAny M B (eval o env) (fun ov s₁ => wpAny M B (getAttr ov m true) (fun f s₂ => wpAny M B (callWith pos f [] (backTo pos (starEach args env)) (backToKw pos (keywordEach kws env))) R E s₂) E s₁) E s) : wpAny M B (eval (.Call (.Attribute o m apos) args kws pos) env) R E s := by
  have c0 : ∀ ov, calleeOf false o env ov m = (getAttr ov m true >>= fun v => pure (v, [])) := fun _ => rfl
  rw [arm_eval_Call, hb]
  refine wpAny_bind (wpAny_mono h (fun ov s₁ h₁ => wpAny_bind (wpAny_standAt ?_)) fun _ _ x => x)
  unfold methodCall
  rw [hf, show methodCallPos false o env apos pos = pure pos from rfl, c0]
  exact wpAny_bind (wpAny_holding (wpAny_bind (wpAny_mono h₁ (fun f s₂ h₂ => wpAny_pure (wpAny_bind (wpAny_pure h₂))) fun _ _ x => x)))
end
section
variable {X : Cx} {N : List Str} {sc : Scope} {e o v : Expr} {δ : Ds} {A : AH} {Q : TQ} {pos apos kp kpos : Pos}
/-- o.m(*e, nm = v), where o, e and v change nothing -/
theorem wpe_methSK {m nm : Str} {k : Nat} {g C p : Addr} {tp : TSp} {ET : TXQ} {x z : TL.D} {xs : List TL.D} (cl : Cls X.K C) (b : BMeth X.K C m g) (F : FnTK X.prog X.w X.K X.mg X.base k g [nm] tp) (hr : Room k X.A) (hx : PassD X δ ET) (ho : Ev X o δ A (.ref p)) (it : InsT X.K A p C m)
    (ha : Ev X e δ A x) (hd : x = .tup xs ∨ ∃ l, x = .ref l ∧ A l = some (.prim (.lst xs))) (hv : Ev X v δ A z) (h : tp (.ref p :: (xs ++ [z])) A Q ET)
    (hst : backTo pos (starEach [.Starred e kp] X.env) = [(true, (do let v ← eval e X.env; standAt pos; pure v))] := by rfl) (hb : attributeBase o m X.env (eval o X.env) = eval o X.env := by rfl) (hf : methodCallForm ([Expr.Starred e kp].length + [(⟨some nm, v, kpos⟩ : Keyword)].length) (backTo pos (starEach [.Starred e kp] X.env)) (backToKw pos (keywordEach [⟨some nm, v, kpos⟩] X.env)) = false := by rfl) (hany : (backTo pos (starEach [.Starred e kp] X.env)).any (·.1) = true := by rfl)
    (hall : (backToKw pos (keywordEach [⟨some nm, v, kpos⟩] X.env)).all (·.1.isSome) = true := by rfl) :
    WPE X (.Call (.Attribute o m apos) [.Starred e kp] [⟨some nm, v, kpos⟩] pos) δ A Q := fun σ H sl r pins s I => by
  refine starcallK_of hb hf (thn (ho A (Sub.refl A) (fun x A1 => x = .ref p ∧ A1 = A) ⟨rfl, rfl⟩ σ H sl r pins s I) fun u s1 ⟨v1, H1, I1, rx, d, A1, k1, rp, hr1, e1, e2⟩ => ?_)
  subst e1 e2
  cases rp
  obtain rfl : u = Value.ref p := rx
  obtain ⟨dx, gs, ea, l⟩ := it H1 hr1
  refine getbound_ok I1 ea cl b l fun q1 s2 hq1 I2 => ?_
  have ex := ex_upd (o := .met g p) hq1
  have kk : Kp X.K H1 (upd H1 q1 (.met g p)) := kp_ex ex
  have fA : A1 q1 = none := hr1.free hq1
  have sA := Sub.upd (o := .prim (.raw (.met g p))) (Sub.refl A1) fA
  have hr2 : HR X.K (updA A1 q1 (.prim (.raw (.met g p)))) (upd H1 q1 (.met g p)) := hr1.new (o := .raw (.met g p)) hq1 kk ex upd_same
  refine call_loneK (P := PySem.W.MethP X.K q1 g (.ref p)) hany (PySem.W.keeps_M b.fi) ?_
  rw [hst]
  refine args_loneK hall (wpAny_bind (thn (ha _ sA (fun x1 A2 => x1 = x ∧ A2 = updA A1 q1 (.prim (.raw (.met g p)))) ⟨rfl, rfl⟩ σ _ (sl.keep (k1.trans kk)) hr2 pins s2 I2) fun u3 s3 ⟨v3, H3, I3, rx3, x3, A3, k3, rp3, hr3, e3, e4⟩ => ?_))
  refine wpAny_bind (wpAny_standAt (wpAny_pure ?_))
  subst e3 e4
  have sl3 := ((sl.keep (k1.trans kk)).keep k3)
  refine thn ((pk_cons (pe_run (e := v)) pk_nil).run pos pins s3 σ H3 (fun zs H4 => ∃ y, zs = [y] ∧ LQ X.K H3 (fun z1 A4 => z1 = z ∧ A4 = updA A1 q1 (.prim (.raw (.met g p)))) y H4) I3 ?_) fun ws s4 ⟨zs, H4, I4, rz, y, ez, d4, A4, k4, ry, hr4, e5, e6⟩ => ?_
  · exact runE.mono (hv _ sA (fun z1 A4 => z1 = z ∧ A4 = updA A1 q1 (.prim (.raw (.met g p)))) ⟨rfl, rfl⟩ σ H3 sl3 hr3) fun y H3 z => ⟨y, rfl, z⟩
  subst e5 e6 ez
  have st : ∃ a vs, v3 = .ref a ∧ (SqT X.K H4 a vs ∨ SqL X.K H4 a vs) ∧ Rps X.K H4 vs xs := by
    have rp4 := Rp.keep rp3 k4
    rcases hd with e | ⟨l, e, hl⟩
    · subst e
      obtain ⟨a, vs, e1, e2, e3⟩ := rp4.tup_inv
      exact ⟨a, vs, e1, .inl e2, e3⟩
    · subst e
      cases rp4
      obtain ⟨vs, e1, e2⟩ := hr4.at_ (sA _ _ hl)
      exact ⟨l, vs, rfl, .inr (.inl (.inl e1)), e2⟩
  obtain ⟨a, vs, ev, hs, rps⟩ := st
  subst ev
  obtain rfl : u3 = Value.ref a := rx3
  refine StX.star_any I4 hs fun us s5 I5 rv => ?_
  have om : H4 q1 = some (.met g p) := hr4.at_ updA_same
  have hr5 := hr4.sub sA
  have l1 : ws.length = 1 := by rw [← rz.length]; rfl
  have sl4 := sl3.keep k4
  refine ⟨met_P I5 om, wpAny_call (PySem.W.method_call (met_P I5 om).1 (codeAny_mono (F X.A X.stack s5 H4 (.ref p :: us) ws (.ref p :: vs) [y] (LQ X.K H4 Q) (EXT X.K H4 ET) hr I5.env0 (.cons rfl rv) rz l1 ⟨.ref p :: (xs ++ [d4]), A1, Q, ET, .cons .ref (Paired.app rps (.cons ry .nil)), hr5, h, fun _ _ q => q, fun _ _ _ q => q⟩) fun r s' hq => ?_))⟩
  cases r with
  | error e => exact hx pins σ H4 s5 e s' I5 sl4 hq
  | ok fl =>
    cases fl with
    | ret u => exact EP.from (((k1.trans kk).trans k3).trans k4) (I5.after hq)
    | next => exact hq.elim
    | brk => exact hq.elim
    | cont => exact hq.elim
end
end TL
/-! isinstance(x, T), T a built-in type -/
namespace TL
open PySem PySem.Spec PyProof.Rows L2
variable {X : Cx} {A : AH}
def tyD : TL.D → Option String
  | .non => some "NoneType"
  | .bl _ => some "bool"
  | .int _ => some "int"
  | .str _ => some "str"
  | .tup _ => some "tuple"
  | _ => none
theorem cav_isT {d : TL.D} {t T : String} {b : Bool} (ht : tyD d = some t) (hk : PySem.W.kitOne X.K (.type t) (.type T) = some b) : CaV X (.builtin "isinstance") [d, .ty T] A (.bl b) := cav_of call_isi fun A1 k H vs hr rps R q => by
  obtain ⟨v1, r1, rfl, h1, rps⟩ := rps_cons rps
  obtain ⟨v2, rfl, h2⟩ := rps1 rps
  cases h2
  refine ⟨v1, _, .type t, .type T, b, rfl, .ty _, ?_, hk, q _ .bl⟩
  cases h1 with
  | non => cases ht; exact .base .non
  | bl => cases ht; exact .base (.bl _)
  | int => cases ht; exact .base (.int _)
  | str => cases ht; exact .base (.str _)
  | ref => cases ht
  | ty => cases ht
  | tup h _ _ =>
    cases ht
    rcases h with h | ⟨o, its, n, e, c, _⟩
    · rcases h with h | ⟨ob, h⟩
      · exact .base (.tup h)
      · exact .fTuple h
    · exact .kTuple e c
theorem kit_same {K : PySem.W.Frag} {t : String} : PySem.W.kitOne K (.type t) (.type t) = some true := by unfold PySem.W.kitOne; rw [if_pos (by simp)]
theorem kit_tupL {K : PySem.W.Frag} : PySem.W.kitOne K (.type "tuple") (.type "list") = some false := by rfl
theorem kit_strT {K : PySem.W.Frag} : PySem.W.kitOne K (.type "str") (.type "tuple") = some false := by rfl
theorem kit_intT {K : PySem.W.Frag} : PySem.W.kitOne K (.type "int") (.type "tuple") = some false := by rfl
theorem kit_strI {K : PySem.W.Frag} : PySem.W.kitOne K (.type "str") (.type "int") = some false := by rfl
theorem kit_intS {K : PySem.W.Frag} : PySem.W.kitOne K (.type "int") (.type "str") = some false := by rfl
theorem kit_tupS {K : PySem.W.Frag} : PySem.W.kitOne K (.type "tuple") (.type "str") = some false := by rfl
theorem kit_tupI {K : PySem.W.Frag} : PySem.W.kitOne K (.type "tuple") (.type "int") = some false := by rfl
end TL
/-! comprehensions of two clauses -/
namespace TL
open PySem PySem.Spec PyProof.Rows L2
variable {X : Cx} {N : List Str} {sc : Scope} {e a b c o i_ v_ : Expr} {es : List Expr} {st : Stmt} {rest : List Stmt} {δ : Ds} {A : AH} {Q : TQ} {D : TEnds} {d x y z : TL.D} {pos apos p_ : Pos}
def famW (X : Cx) (scope : Scope) (tg iter : Expr) : TI := fun σ H R => ∀ s H0 C cl fp, runI (Blk X scope s H0 C cl fp) tg iter σ H R
theorem BC.lcW {scope : Scope} {tg iter : Expr} (st : Shared) (H0 : Hp) (C : Addr) (cl : List (Str × Addr)) (fp : List Addr) : PI (Blk X scope st H0 C cl fp) tg iter (famW X scope tg iter) := ⟨fun pins s' σ' H' R I z => z st H0 C cl fp pins s' I⟩
theorem wipe_one {σ : L2.St} {j : Nat} {v : Option V} : wipe (σ.set j v) [j] = wipe σ [j] := by
  show (σ.set j v).set j none = σ.set j none
  rw [List.set_set]
/-- what is asked of the two clauses -/
def Lc2 (X : Cx) (scope : Scope) (own : List (Str × Nat)) (j j1 : Nat) (s1 : Str) (pt1 : Pos) (elt iter1 : Expr) (q : Ifs) (δ : Ds) (Q : TQ) : RW := fun n f G A1 => ∀ Dl, A1 Dl = none → ∃ W : Nat → AH → Prop, W 0 (updA A1 Dl (.prim (.lst []))) ∧ (∀ i A', i ≤ n → W i A' → G A') ∧
  (∀ i A', i < n → W i A' → ∀ s H0 C cl fp, WPI (Blk X scope s H0 C cl fp) (.Name s1 pt1) iter1 ((wipeD δ (own.map (·.2))).set j (some (f i))) A' fun n1 f1 G1 A2 => ∃ (W1 : Nat → AH → Prop) (kp : Nat → Bool), W1 0 A2 ∧ (∀ i A', i ≤ n1 → W1 i A' → G1 A') ∧
    (∀ i1 A3, i1 < n1 → W1 i1 A3 → EvF X scope (((wipeD δ (own.map (·.2))).set j (some (f i))).set j1 (some (f1 i1))) A3 (kp i1) q ∧
      (kp i1 = true → ∀ s H0 C cl fp, WPE (Blk X scope s H0 C cl fp) elt (((wipeD δ (own.map (·.2))).set j (some (f i))).set j1 (some (f1 i1))) A3 fun d A4 => ∃ acc, A4 Dl = some (.prim (.lst acc)) ∧ acc.length < sizeLine ∧ WVA W1 (i1 + 1) (updA A4 Dl (.prim (.lst (acc ++ [d]))))) ∧
      (kp i1 = false → WVA W1 (i1 + 1) A3)) ∧ (∀ A3, W1 n1 A3 → WVA W (i + 1) A3)) ∧
  (∀ A', W n A' → Q (.ref Dl) A')
theorem BC.lcC2 {scope : Scope} {own : List (Str × Nat)} {s s1 : Str} {j j1 : Nat} {elt iter iter1 : Expr} {pt pt1 : Pos} (q : Ifs) (hv : j ∈ own.map (·.2)) (hv1 : j1 ∈ own.map (·.2)) (hjj : j1 ≠ j)
    (h : WPI X (.Name s pt) iter δ A (Lc2 X scope own j j1 s1 pt1 elt iter1 q δ Q))
    {σ : St} {H : Hp} (sl : Sl X.K H σ δ) (r : HR X.K A H) {R : VK} (hR : ∀ v H', LQ X.K H Q v H' → R v H') : tLc2 (runI X (.Name s pt) iter) (gName j) tYes (famW X scope (.Name s1 pt1) iter1) (gName j1) (famI X scope q) (famE X scope elt) (own.map (·.2)) [j1] σ H R := by
  refine h σ H sl r _ fun J H1 n f G A1 YG k1 hr1 wk hG h2 => fun Dl hD => ?_
  obtain ⟨W, h0, hg, hstep, hend⟩ := h2 Dl (hr1.free hD)
  have ex := ex_upd (o := .lst []) hD
  have kk : Kp X.K H1 (upd H1 Dl (.lst [])) := kp_ex ex
  have h0' : ∃ A', Kp X.K H1 (upd H1 Dl (.lst [])) ∧ HR X.K A' (upd H1 Dl (.lst [])) ∧ W 0 A' := ⟨_, kk, hr1.new (o := .lst []) hD kk ex ⟨[], upd_same, .nil⟩, h0⟩
  refine ⟨fun i m H' => m = n - i ∧ i ≤ n ∧ ∃ A', Kp X.K H1 H' ∧ HR X.K A' H' ∧ W i A', ⟨n, by simp, Nat.zero_le _, h0'⟩, ?_⟩
  rintro i m H' ⟨rfl, hi, A', k, hr, w⟩
  have hgq := hG A' H' k hr (hg i A' hi w)
  by_cases hlt : i < n
  · refine .inr ⟨wk.goes i H' hlt hgq, fun H'' => ∃ A'', Kp X.K H1 H'' ∧ HR X.K A'' H'' ∧ W (i + 1) A'', fun H'' p' => ⟨n - (i + 1), by omega, rfl, hlt, p'⟩, fun v H'' y => ?_⟩
    obtain ⟨ky, ay, rp⟩ := wk.yields i H' v H'' hlt hgq y
    refine ⟨wipe_set hv, ?_⟩
    have hr' := ay A' hr
    have k' : Kp X.K H1 H'' := k.trans ky
    have sl' : Sl X.K H'' ((wipe σ (own.map (·.2))).set j (some v)) ((wipeD δ (own.map (·.2))).set j (some (f i))) := ((sl_wipe sl _).keep (k1.trans k')).set j rp
    simp only [tYes, if_true]
    intro st H0 C cl fp
    refine (hstep i A' hlt w st H0 C cl fp) _ H'' sl' hr' _ fun J1 H4 n1 f1 G1 A2 YG1 k4 hr4 wk1 hG1 ⟨W1, kp, w0, hg1, hs1, he1⟩ => ?_
    have k4' : Kp X.K H1 H4 := k'.trans k4
    refine ⟨fun i1 m H5 => m = n1 - i1 ∧ i1 ≤ n1 ∧ ∃ A5, Kp X.K H4 H5 ∧ HR X.K A5 H5 ∧ W1 i1 A5, ⟨n1, by simp, Nat.zero_le _, A2, Kp.refl _, hr4, w0⟩, ?_⟩
    rintro i1 m H5 ⟨rfl, hi1, A5, k5, hr5, w5⟩
    have hg5 := hG1 A5 H5 k5 hr5 (hg1 i1 A5 hi1 w5)
    by_cases hlt1 : i1 < n1
    · refine .inr ⟨wk1.goes i1 H5 hlt1 hg5, fun H6 => ∃ A6, Kp X.K H4 H6 ∧ HR X.K A6 H6 ∧ W1 (i1 + 1) A6, fun H6 p' => ⟨n1 - (i1 + 1), by omega, rfl, hlt1, p'⟩, fun v1 H6 y1 => ?_⟩
      obtain ⟨ky1, ay1, rp1⟩ := wk1.yields i1 H5 v1 H6 hlt1 hg5 y1
      have hr6 := ay1 A5 hr5
      have k6 : Kp X.K H4 H6 := k5.trans ky1
      have esl : (wipe ((wipe σ (own.map (·.2))).set j (some v)) [j1]).set j1 (some v1) = ((wipe σ (own.map (·.2))).set j (some v)).set j1 (some v1) := by
        show (((wipe σ (own.map (·.2))).set j (some v)).set j1 none).set j1 (some v1) = _
        rw [List.set_set]
      have sl6 : Sl X.K H6 ((wipe ((wipe σ (own.map (·.2))).set j (some v)) [j1]).set j1 (some v1)) (((wipeD δ (own.map (·.2))).set j (some (f i))).set j1 (some (f1 i1))) := by
        rw [esl]
        exact (sl'.keep (k4.trans k6)).set j1 rp1
      refine ⟨wipe_set (List.mem_singleton_self _), ?_⟩
      obtain ⟨z1, z2, z3⟩ := hs1 i1 A5 hlt1 w5
      have body : ∀ (kb : Bool) (H7 : Hp), kb = kp i1 → Kp X.K H6 H7 → HR X.K A5 H7 →
          if kb = true then famE X scope elt ((wipe ((wipe σ (own.map (·.2))).set j (some v)) [j1]).set j1 (some v1)) H7 (fun y H8 => ∃ acc, H8 Dl = some (.lst acc) ∧ acc.length < sizeLine ∧ ∃ A6, Kp X.K H4 (upd H8 Dl (.lst (acc ++ [y]))) ∧ HR X.K A6 (upd H8 Dl (.lst (acc ++ [y]))) ∧ W1 (i1 + 1) A6) else ∃ A6, Kp X.K H4 H7 ∧ HR X.K A6 H7 ∧ W1 (i1 + 1) A6 := fun kb H7 ek k7 hr7 => by
        cases kb with
        | true =>
          rw [if_pos rfl]
          refine fun st H0 C cl fp => runE.mono ((z2 ek.symm st H0 C cl fp) _ H7 (sl6.keep k7) hr7) fun vd H8 ⟨d, A8, k8, rd, hr8, acc, ha, hl, A9, vw, w9⟩ => ?_
          obtain ⟨ws, hw, rw'⟩ := hr8.at_ ha
          obtain ⟨k9, hr9⟩ := hr_write (m' := .lst (acc ++ [d])) (u' := .lst (ws ++ [vd])) hr8 ha hw (by intro _ z; cases z) (by intro _ _ z; cases z) fun k => ⟨_, upd_same, Rps.keep (Paired.app rw' (.cons rd .nil)) k⟩
          exact ⟨ws, hw, by rw [Paired.length rw']; exact hl, A9, ((k6.trans k7).trans k8).trans k9, vw _ _ hr9, w9⟩
        | false =>
          rw [if_neg Bool.false_ne_true]
          obtain ⟨A6, vw, w6⟩ := z3 ek.symm
          exact ⟨A6, k6.trans k7, vw _ _ hr7, w6⟩
      cases q with
      | no =>
        have e1 : true = kp i1 := Eq.symm z1
        exact body true H6 e1 (Kp.refl _) hr6
      | one c => exact fun st H0 C cl fp => runT.mono ((z1 st H0 C cl fp) A5 (Sub.refl A5) (fun b A6 => b = kp i1 ∧ A6 = A5) ⟨rfl, rfl⟩ _ H6 sl6 hr6) fun b H7 ⟨A6, k7, hr7, e1, e2⟩ => by subst e2; exact body b H7 e1 k7 hr7
    · have e : i1 = n1 := by omega
      subst e
      obtain ⟨A6, vw, w6⟩ := he1 A5 w5
      exact .inl ⟨wk1.stops H5 hg5, A6, k4'.trans k5, vw _ _ hr5, w6⟩
  · have e : i = n := by omega
    subst e
    exact .inl ⟨wk.stops H' hgq, hR _ _ ⟨.ref Dl, A', k1.trans k, .ref, hr, hend A' w⟩⟩
theorem own_sub {own : List (Str × Nat)} {j1 : Nat} (h : j1 ∈ own.map (·.2)) : ∀ i ∈ [j1], i ∈ own.map (·.2) := fun i hi => by rw [List.mem_singleton] at hi; rw [hi]; exact h
theorem BC.lc2 {scope : Scope} {own : List (Str × Nat)} {s s1 : Str} {j j1 : Nat} {elt iter iter1 : Expr} {pt pt1 : Pos} (q : Ifs) (B : SC X N sc) (ok : blkC N sc scope own = true) (hj : N[j]? = some s) (hl : scope.names.lookup s = some .local) (hj1 : N[j1]? = some s1) (hl1 : scope.names.lookup s1 = some .local) (hv : j ∈ own.map (·.2)) (hv1 : j1 ∈ own.map (·.2)) (hjj : j1 ≠ j)
    (h : WPI X (.Name s pt) iter δ A (Lc2 X scope own j j1 s1 pt1 elt iter1 q δ Q)) (hs : ∀ x, foldedSetIterable iter X.env x = pure x := by intro _; rfl) (hs1 : ∀ env x, foldedSetIterable iter1 env x = pure x := by intro _ _; rfl) : WPE X (.ListComp elt [⟨.Name s pt, iter, [], 0⟩, ⟨.Name s1 pt1, iter1, q.list, 0⟩] scope pos) δ A Q := fun σ H sl r =>
  runE.of (pe_lc2 (own := own) (vs1 := [j1]) (wi := runI X (.Name s pt) iter) (g := gName j) (tt := tYes) (wi1 := famW X scope (.Name s1 pt1) iter1) (g1 := gName j1) (tt1 := famI X scope q) (te := famE X scope elt) B.calm B.nd pi_run (BC.lcB B ok) (own_sub hv1) (BC.lcG B hj hl) (fun _ _ _ _ _ => pts_nil) BC.lcW (BC.lcG B hj1 hl1) (BC.lcT q) BC.lcE hs hs1) (BC.lcC2 q hv hv1 hjj h sl r fun _ _ z => z)
/-- name = [..] on one line -/
theorem SC.setLc2 {y : Str} {iy : Nat} {py spos : Pos} {scope : Scope} {own : List (Str × Nat)} {s s1 : Str} {j j1 : Nat} {elt iter iter1 : Expr} {pt pt1 : Pos} (q : Ifs) (B : SC X N sc) (hk : sc.kind = .function) (hy : N[iy]? = some y) (hyl : sc.names.lookup y = some .local) (hln : (py.line == pos.line) = true) (hna : (scope.names.any fun (n, k) => n == y && (k == .local || k == .cell)) = false) (ok : blkC N sc scope own = true) (hj : N[j]? = some s) (hl : scope.names.lookup s = some .local) (hj1 : N[j1]? = some s1) (hl1 : scope.names.lookup s1 = some .local) (hv : j ∈ own.map (·.2)) (hv1 : j1 ∈ own.map (·.2)) (hjj : j1 ≠ j)
    (h : WPI X (.Name s pt) iter δ A (Lc2 X scope own j j1 s1 pt1 elt iter1 q δ fun d A1 => D.nx (δ.set iy (some d)) A1)) (hs : ∀ x, foldedSetIterable iter X.env x = pure x := by intro _; rfl) (hs1 : ∀ env x, foldedSetIterable iter1 env x = pure x := by intro _ _; rfl) : WPS X (.Assign [.Name y py] (.ListComp elt [⟨.Name s pt, iter, [], 0⟩, ⟨.Name s1 pt1, iter1, q.list, 0⟩] scope pos) spos) δ A D := fun σ H sl r => by
  have k2 : sc.kind = .function := hk
  refine runS.of (ps_setLc2 (own := own) (vs1 := [j1]) (wi := runI X (.Name s pt) iter) (g := gName j) (tt := tYes) (wi1 := famW X scope (.Name s1 pt1) iter1) (g1 := gName j1) (tt1 := famI X scope q) (te := famE X scope elt) B.calm B.nd (by rw [B.n]; exact hy) (by rw [B.sc]; exact hyl) (sw_true (by rw [B.sc]; exact hk) (by rw [B.sc]; exact hyl) hln hna) pi_run (BC.lcB B ok) (own_sub hv1) (BC.lcG B hj hl) (fun _ _ _ _ _ => pts_nil) BC.lcW (BC.lcG B hj1 hl1) (BC.lcT q) BC.lcE hs hs1) ?_
  exact BC.lcC2 (Q := fun d A1 => D.nx (δ.set iy (some d)) A1) q hv hv1 hjj h sl r fun v H' ⟨d, A', k, rp, hr, z⟩ => ⟨δ.set iy (some d), A', k, (sl.keep k).set iy rp, hr, z⟩
/-- what is walked stands at A -/
def EvIA (X : Cx) (tg iter : Expr) (δ : Ds) (A : AH) (xs : List TL.D) : Prop := ∀ A1, Sub A A1 → ∀ R : RW, (∀ G f, (∀ A2, Sub A A2 → G A2) → (∀ i, i < xs.length → xs[i]? = some (f i)) → R xs.length f G A1) → WPI X tg iter δ A1 R
theorem evia_list {tg : Expr} {p : Addr} {xs : List TL.D} (h : Ev X e δ A (.ref p)) (hp : A p = some (.prim (.lst xs))) : EvIA X tg e δ A xs := fun A1 k R hR =>
  wpi_list ((h.sub k).wp ⟨p, xs, rfl, k _ _ hp, hR _ _ (fun A2 k2 => k2 _ _ hp) fun i hi => getD_some hi⟩)
theorem evia_tup {tg : Expr} {xs : List TL.D} (h : Ev X e δ A (.tup xs)) : EvIA X tg e δ A xs := fun A1 k R hR =>
  wpi_tup ((h.sub k).wp ⟨xs, rfl, hR _ _ (fun _ _ => trivial) fun i hi => getD_some hi⟩)
theorem evia_range {tg : Expr} {p : Pos} {n : Int} (B : BC X N sc) (hg : sc.names.lookup ("range" : Str) = some .globalImplicit) (hm : X.mg "range" = none) (h : Ev X a δ A (.int n)) (h1 : n < 2 ^ 62) (h2 : -(2 ^ 62) ≤ n) (hs : starEach [a] X.env = [(false, eval a X.env)] := by rfl) :
    EvIA X tg (.Call (.Name "range" p) [a] [] pos) δ A ((List.range n.toNat).map fun i => .int (i : Nat)) := fun A1 k R hR =>
  wpi_range1 B hg hm ((h.sub k).wp ⟨n, rfl, h1, h2, by
    have t := hR (fun _ => True) (fun i => .int (0 + i)) (fun _ _ => trivial) (fun i hi => by
      rw [List.length_map, List.length_range] at hi
      rw [List.getElem?_map, List.getElem?_range hi]; simp)
    rw [List.length_map, List.length_range] at t
    exact t⟩) hs
/-- both clauses change nothing -/
theorem lc2_pure {α β : Type} {scope : Scope} {own : List (Str × Nat)} {s s1 : Str} {j j1 : Nat} {elt iter iter1 : Expr} {pt pt1 : Pos} {ys : List α} {en : α → TL.D} {zs : α → List β} {en1 : α → β → TL.D} (q : Ifs) (kp : α → β → Bool) (g : α → β → TL.D)
    (hi : EvI X (.Name s pt) iter δ A (ys.map en)) (hi1 : ∀ y ∈ ys, ∀ s H0 C cl fp, EvIA (Blk X scope s H0 C cl fp) (.Name s1 pt1) iter1 ((wipeD δ (own.map (·.2))).set j (some (en y))) A ((zs y).map (en1 y)))
    (hz : (ys.flatMap zs).length ≤ sizeLine) (ht : ∀ y ∈ ys, ∀ z ∈ zs y, EvF X scope (((wipeD δ (own.map (·.2))).set j (some (en y))).set j1 (some (en1 y z))) A (kp y z) q)
    (he : ∀ y ∈ ys, ∀ z ∈ zs y, kp y z = true → ∀ s H0 C cl fp, Ev (Blk X scope s H0 C cl fp) elt (((wipeD δ (own.map (·.2))).set j (some (en y))).set j1 (some (en1 y z))) A (g y z)) {A1 : AH} (k : Sub A A1) {Q : TQ} (qq : ∀ p, A1 p = none → Q (.ref p) (updA A1 p (.prim (.lst (ys.flatMap fun y => ((zs y).filter (kp y)).map (g y)))))) :
    WPI X (.Name s pt) iter δ A1 (Lc2 X scope own j j1 s1 pt1 elt iter1 q δ Q) := by
  refine hi A1 k _ fun G f hG hf => fun Dl hD => ?_
  have fl : ∀ i, (((ys.take i).flatMap fun y => ((zs y).filter (kp y)).map (g y))).length ≤ ((ys.take i).flatMap zs).length := fun i => by
    generalize ys.take i = l
    induction l with
    | nil => exact Nat.le_refl _
    | cons a l ih =>
      rw [List.flatMap_cons, List.flatMap_cons, List.length_append, List.length_append, List.length_map]
      have := List.length_filter_le (kp a) (zs a)
      omega
  have fl2 : ∀ i, i < ys.length → ∀ y, ys[i]? = some y → ((ys.take i).flatMap zs).length + (zs y).length ≤ (ys.flatMap zs).length := fun i hi y hy => by
    have e : ys = ys.take i ++ y :: ys.drop (i + 1) := by
      have h1 := (List.getElem?_eq_some_iff.mp hy).2
      rw [← h1]; simp
    have := congrArg (fun l => (l.flatMap zs).length) e
    simp only [List.flatMap_append, List.flatMap_cons, List.length_append] at this
    omega
  refine ⟨fun i A' => A' = updA A1 Dl (.prim (.lst ((ys.take i).flatMap fun y => ((zs y).filter (kp y)).map (g y)))), by simp, fun i A' _ w => by subst w; exact hG _ (Sub.upd (Sub.refl A1) hD), fun i A' hi w st H0 C cl fp => ?_, fun A' w => ?_⟩
  · subst w
    have hi' : i < ys.length := by simpa using hi
    obtain ⟨y, hy⟩ : ∃ y, ys[i]? = some y := ⟨_, List.getElem?_eq_getElem hi'⟩
    have hmem : y ∈ ys := List.mem_of_getElem? hy
    have hfy : f i = en y := by
      have z := hf i hi
      rw [List.getElem?_map, hy] at z
      exact (Option.some.inj z).symm
    have sub := Sub.upd (o := .prim (.lst ((ys.take i).flatMap fun y => ((zs y).filter (kp y)).map (g y)))) (Sub.refl A1) hD
    have etk : ys.take (i + 1) = ys.take i ++ [y] := take_snoc hy
    have hlen := fl2 i hi' y hy
    have hl0 := fl i
    rw [hfy]
    generalize ys.take i = tk at sub hlen hl0 etk ⊢
    refine (hi1 y hmem st H0 C cl fp) _ (k.trans sub) _ fun G1 f1 hG1 hf1 => ?_
    refine ⟨fun i1 A3 => A3 = updA A1 Dl (.prim (.lst ((tk.flatMap fun y => ((zs y).filter (kp y)).map (g y)) ++ (((zs y).take i1).filter (kp y)).map (g y)))), fun i1 => match (zs y)[i1]? with | some z => kp y z | none => false, by simp, fun i1 A3 _ w => ?_, fun i1 A3 hi1 w => ?_, fun A3 w => ⟨_, Vw.refl _, ?_⟩⟩
    · subst w
      exact hG1 _ (k.trans (Sub.upd (Sub.refl A1) hD))
    · subst w
      have hi1' : i1 < (zs y).length := by simpa using hi1
      obtain ⟨z, hz1⟩ : ∃ z, (zs y)[i1]? = some z := ⟨_, List.getElem?_eq_getElem hi1'⟩
      have hmz : z ∈ zs y := List.mem_of_getElem? hz1
      have hfz : f1 i1 = en1 y z := by
        have t := hf1 i1 hi1
        rw [List.getElem?_map, hz1] at t
        exact (Option.some.inj t).symm
      have etk1 : (zs y).take (i1 + 1) = (zs y).take i1 ++ [z] := take_snoc hz1
      have sub1 := Sub.upd (o := .prim (.lst ((tk.flatMap fun y => ((zs y).filter (kp y)).map (g y)) ++ (((zs y).take i1).filter (kp y)).map (g y)))) (Sub.refl A1) hD
      rw [hfz]
      simp only [hz1]
      refine ⟨?_, fun hk s H0 C cl fp => ?_, fun hk => ?_⟩
      · have t := ht y hmem z hmz
        cases q with
        | no => exact t
        | one c => exact fun s H0 C cl fp => EvT.sub (t s H0 C cl fp) (k.trans sub1)
      · refine (he y hmem z hmz hk s H0 C cl fp) _ (k.trans sub1) _ ⟨_, updA_same, ?_, _, Vw.refl _, ?_⟩
        · have h1 := List.length_filter_le (kp y) ((zs y).take i1)
          rw [List.length_append, List.length_map]
          have h2 : ((zs y).take i1).length ≤ i1 := by rw [List.length_take]; exact Nat.min_le_left ..
          omega
        · dsimp only
          rw [updA_updA, etk1, List.filter_append, List.map_append]
          simp [List.filter_cons, hk]
      · refine ⟨_, Vw.refl _, ?_⟩
        dsimp only
        rw [etk1, List.filter_append, List.map_append]
        simp [List.filter_cons, hk]
    · subst w
      rw [List.length_map, List.take_length, etk, List.flatMap_append]
      simp
  · subst w
    have z := qq Dl hD
    rw [List.length_map, List.take_length]
    exact z
/-- a comprehension of two clauses whose elements change nothing -/
theorem BC.elc2 {α β : Type} {scope : Scope} {own : List (Str × Nat)} {s s1 : Str} {j j1 : Nat} {elt iter iter1 : Expr} {pt pt1 : Pos} {ys : List α} {en : α → TL.D} {zs : α → List β} {en1 : α → β → TL.D} (q : Ifs) (kp : α → β → Bool) (g : α → β → TL.D) (B : SC X N sc) (ok : blkC N sc scope own = true) (hj : N[j]? = some s) (hl : scope.names.lookup s = some .local) (hj1 : N[j1]? = some s1) (hl1 : scope.names.lookup s1 = some .local) (hv : j ∈ own.map (·.2)) (hv1 : j1 ∈ own.map (·.2)) (hjj : j1 ≠ j)
    (hi : EvI X (.Name s pt) iter δ A (ys.map en)) (hi1 : ∀ y ∈ ys, ∀ s H0 C cl fp, EvIA (Blk X scope s H0 C cl fp) (.Name s1 pt1) iter1 ((wipeD δ (own.map (·.2))).set j (some (en y))) A ((zs y).map (en1 y)))
    (hz : (ys.flatMap zs).length ≤ sizeLine) (ht : ∀ y ∈ ys, ∀ z ∈ zs y, EvF X scope (((wipeD δ (own.map (·.2))).set j (some (en y))).set j1 (some (en1 y z))) A (kp y z) q)
    (he : ∀ y ∈ ys, ∀ z ∈ zs y, kp y z = true → ∀ s H0 C cl fp, Ev (Blk X scope s H0 C cl fp) elt (((wipeD δ (own.map (·.2))).set j (some (en y))).set j1 (some (en1 y z))) A (g y z)) (hs : ∀ x, foldedSetIterable iter X.env x = pure x := by intro _; rfl) (hs1 : ∀ env x, foldedSetIterable iter1 env x = pure x := by intro _ _; rfl) :
    EvN X (.ListComp elt [⟨.Name s pt, iter, [], 0⟩, ⟨.Name s1 pt1, iter1, q.list, 0⟩] scope pos) δ A (.lst (ys.flatMap fun y => ((zs y).filter (kp y)).map (g y))) := fun A1 k Q qq => BC.lc2 q B ok hj hl hj1 hl1 hv hv1 hjj (lc2_pure q kp g hi hi1 hz ht he k qq) hs hs1
theorem SC.selc2 {α β : Type} {y : Str} {iy : Nat} {py spos : Pos} {scope : Scope} {own : List (Str × Nat)} {s s1 : Str} {j j1 : Nat} {elt iter iter1 : Expr} {pt pt1 : Pos} {ys : List α} {en : α → TL.D} {zs : α → List β} {en1 : α → β → TL.D} (q : Ifs) (kp : α → β → Bool) (g : α → β → TL.D) (B : SC X N sc) (hk : sc.kind = .function) (hy : N[iy]? = some y) (hyl : sc.names.lookup y = some .local) (hln : (py.line == pos.line) = true) (hna : (scope.names.any fun (n, k) => n == y && (k == .local || k == .cell)) = false) (ok : blkC N sc scope own = true) (hj : N[j]? = some s) (hl : scope.names.lookup s = some .local) (hj1 : N[j1]? = some s1) (hl1 : scope.names.lookup s1 = some .local) (hv : j ∈ own.map (·.2)) (hv1 : j1 ∈ own.map (·.2)) (hjj : j1 ≠ j)
    (hi : EvI X (.Name s pt) iter δ A (ys.map en)) (hi1 : ∀ y ∈ ys, ∀ s H0 C cl fp, EvIA (Blk X scope s H0 C cl fp) (.Name s1 pt1) iter1 ((wipeD δ (own.map (·.2))).set j (some (en y))) A ((zs y).map (en1 y)))
    (hz : (ys.flatMap zs).length ≤ sizeLine) (ht : ∀ y ∈ ys, ∀ z ∈ zs y, EvF X scope (((wipeD δ (own.map (·.2))).set j (some (en y))).set j1 (some (en1 y z))) A (kp y z) q)
    (he : ∀ y ∈ ys, ∀ z ∈ zs y, kp y z = true → ∀ s H0 C cl fp, Ev (Blk X scope s H0 C cl fp) elt (((wipeD δ (own.map (·.2))).set j (some (en y))).set j1 (some (en1 y z))) A (g y z)) (qq : ∀ p, A p = none → D.nx (δ.set iy (some (.ref p))) (updA A p (.prim (.lst (ys.flatMap fun y => ((zs y).filter (kp y)).map (g y)))))) (hs : ∀ x, foldedSetIterable iter X.env x = pure x := by intro _; rfl) (hs1 : ∀ env x, foldedSetIterable iter1 env x = pure x := by intro _ _; rfl) :
    WPS X (.Assign [.Name y py] (.ListComp elt [⟨.Name s pt, iter, [], 0⟩, ⟨.Name s1 pt1, iter1, q.list, 0⟩] scope pos) spos) δ A D := SC.setLc2 q B hk hy hyl hln hna ok hj hl hj1 hl1 hv hv1 hjj (lc2_pure (Q := fun d A' => D.nx (δ.set iy (some d)) A') q kp g hi hi1 hz ht he (Sub.refl A) qq) hs hs1
end TL
/-! is not, of bools -/
namespace TL
open PySem PySem.Spec PyProof.Rows L2
theorem opv_notBl {X : Cx} {A : AH} {k l : Bool} : OpV X (compareOp .IsNot) (.bl k) (.bl l) A (.bl (!decide (k = l))) :=
  opv_of L2.op_notBl fun A1 _ H vx vy hr rx ry R q => by cases rx; cases ry; exact ⟨k, l, rfl, rfl, q _ .bl⟩
/-- e is not True, e is True .. -/
theorem et_notB {X : Cx} {e : Expr} {δ : Ds} {A : AH} {k l : Bool} {j : Nat} {p1 pos : Pos} (h : Ev X e δ A (.bl k)) : EvT X (.Compare e [.IsNot] [.Constant (.bool l) j p1] pos) δ A (!decide (k = l)) := et_cmp h ev_bl opv_notBl rfl
theorem ev_isB {X : Cx} {e : Expr} {δ : Ds} {A : AH} {k l : Bool} {j : Nat} {p1 pos : Pos} (h : Ev X e δ A (.bl k)) : Ev X (.Compare e [.Is] [.Constant (.bool l) j p1] pos) δ A (.bl (decide (k = l))) := ev_cmp h ev_bl opv_isBl rfl
end TL
/-! a dict is locked while an expression, a statement runs: it can be walked and read -/
namespace TL
open PySem PySem.Spec PyProof.Rows L2
variable {X : Cx} {N : List Str} {sc : Scope} {e a b c o i_ v_ : Expr} {es : List Expr} {st : Stmt} {rest : List Stmt} {δ : Ds} {A : AH} {Q : TQ} {D : TEnds} {d x y z : TL.D} {pos apos p_ : Pos} {p : Addr} {kvs : List (Key × TL.D)}
theorem kp_unlock {K : PySem.W.Frag} {H : Hp} {p : Addr} {od : Obj} {us : List (Key × V)} {u' : HO} (h : H p = some (.frz od (.dK us))) : Kp K H (upd H p u') := fun a xs t => by
  rcases t with (t | ⟨ob, t⟩) | t
  · refine .inl (.inl ?_)
    rw [upd_ne (fun z => by rw [z, h] at t; cases t)]; exact t
  · refine .inl (.inr ⟨ob, ?_⟩)
    rw [upd_ne (fun z => by rw [z, h] at t; cases t)]; exact t
  · exact .inr t
theorem hr_lock {K : PySem.W.Frag} {H : Hp} {us : List (Key × V)} (hr : HR K A H) (hp : A p = some (.prim (.dK kvs))) (h : H p = some (.dK us)) (kv : KVr K H us kvs) (od : Obj) : Kp K H (upd H p (.frz od (.dK us))) ∧ HR K (updA A p (.prim (.roK od us kvs))) (upd H p (.frz od (.dK us))) :=
  hr_write (m' := .roK od us kvs) (u' := .frz od (.dK us)) hr hp h (by intro _ z; cases z) (by intro _ _ z; cases z) fun k => ⟨upd_same, KVr.keep kv k⟩
theorem hr_unlock {K : PySem.W.Frag} {H : Hp} {us : List (Key × V)} {od : Obj} (hr : HR K A H) (hp : A p = some (.prim (.roK od us kvs))) : Kp K H (upd H p (.dK us)) ∧ HR K (updA A p (.prim (.dK kvs))) (upd H p (.dK us)) := by
  have m := hr.at_ hp
  have k : Kp K H (upd H p (.dK us)) := kp_unlock m.1
  exact ⟨k, hr.write hp k (fun a h => upd_ne h) ⟨us, upd_same, KVr.keep m.2 k⟩⟩
/-- an expression behind a lock -/
theorem WPE.lock (hd : A p = some (.prim (.dK kvs))) (h : ∀ od us, WPE X e δ (updA A p (.prim (.roK od us kvs))) fun v A' => A' p = some (.prim (.roK od us kvs)) ∧ Q v (updA A' p (.prim (.dK kvs)))) : WPE X e δ A Q := fun σ H sl r => by
  obtain ⟨us, hu, kv⟩ := r.at_ hd
  refine runE.of (pe_lock pe_run) ⟨p, .dK us, hu, trivial, fun od => ?_⟩
  obtain ⟨k1, r1⟩ := hr_lock r hd hu kv od
  refine runE.mono (h od us σ _ (sl.keep k1) r1) fun v H' ⟨d, A', k2, rp, r2, e1, q⟩ => ⟨(r2.at_ e1).1, ?_⟩
  obtain ⟨k3, r3⟩ := hr_unlock r2 e1
  exact ⟨d, _, (k1.trans k2).trans k3, rp.keep k3, r3, q⟩
theorem WPS.lock (hd : A p = some (.prim (.dK kvs))) (h : ∀ od us, WPS X st δ (updA A p (.prim (.roK od us kvs))) { nx := fun δ' A' => A' p = some (.prim (.roK od us kvs)) ∧ D.nx δ' (updA A' p (.prim (.dK kvs))), rt := fun v A' => A' p = some (.prim (.roK od us kvs)) ∧ D.rt v (updA A' p (.prim (.dK kvs))), bk := fun δ' A' => A' p = some (.prim (.roK od us kvs)) ∧ D.bk δ' (updA A' p (.prim (.dK kvs))), ct := fun δ' A' => A' p = some (.prim (.roK od us kvs)) ∧ D.ct δ' (updA A' p (.prim (.dK kvs))) }) : WPS X st δ A D := fun σ H sl r => by
  obtain ⟨us, hu, kv⟩ := r.at_ hd
  refine runS.of (ps_lock ps_run) ⟨p, .dK us, hu, trivial, fun od => ?_⟩
  obtain ⟨k1, r1⟩ := hr_lock r hd hu kv od
  have nn : ∀ {M : Ds → AH → Prop} {σ' : L2.St} {H' : Hp}, LN X.K (upd H p (.frz od (.dK us))) (fun δ' A' => A' p = some (.prim (.roK od us kvs)) ∧ M δ' (updA A' p (.prim (.dK kvs)))) σ' H' → H' p = some (.frz od (.dK us)) ∧ LN X.K H M σ' (upd H' p (.dK us)) := fun {M σ' H'} ⟨δ', A', k2, sl2, r2, e1, q⟩ => by
    obtain ⟨k3, r3⟩ := hr_unlock r2 e1
    exact ⟨(r2.at_ e1).1, δ', _, (k1.trans k2).trans k3, sl2.keep k3, r3, q⟩
  refine runS.mono (h od us σ _ (sl.keep k1) r1) (fun σ' H' z => nn z) (fun v H' ⟨d, A', k2, rp, r2, e1, q⟩ => ?_) (fun σ' H' z => nn z) fun σ' H' z => nn z
  obtain ⟨k3, r3⟩ := hr_unlock r2 e1
  exact ⟨(r2.at_ e1).1, d, _, (k1.trans k2).trans k3, rp.keep k3, r3, q⟩
theorem upd_back {A1 : AH} {od : Obj} {us : List (Key × V)} (hd : A1 p = some (.prim (.dK kvs))) : updA (updA A1 p (.prim (.roK od us kvs))) p (.prim (.dK kvs)) = A1 := by
  rw [updA_updA]
  funext b; unfold updA; split
  · rename_i h; rw [h, hd]
  · rfl
theorem sub_lock {A1 : AH} {u : AO} (s : TL.Sub A A1) : TL.Sub (updA A p u) (updA A1 p u) := fun b w h => by
  by_cases z : b = p
  · rw [z, updA_same] at h ⊢; exact h
  · rw [updA_ne z] at h ⊢; exact s _ _ h
theorem Ev.lock (hd : A p = some (.prim (.dK kvs))) (h : ∀ od us, Ev X e δ (updA A p (.prim (.roK od us kvs))) d) : Ev X e δ A d := fun A1 k Q q =>
  WPE.lock (k _ _ hd) fun od us => h od us _ (sub_lock k) _ ⟨updA_same, by rw [upd_back (k _ _ hd)]; exact q⟩
theorem EvN.lock {ob : MO} (hd : A p = some (.prim (.dK kvs))) (h : ∀ od us, EvN X e δ (updA A p (.prim (.roK od us kvs))) ob) : EvN X e δ A ob := fun A1 k Q q =>
  WPE.lock (k _ _ hd) fun od us => h od us _ (sub_lock k) _ fun t ht => by
    have ne : t ≠ p := fun z => by rw [z, updA_same] at ht; cases ht
    refine ⟨by rw [updA_ne (Ne.symm ne)]; exact updA_same, ?_⟩
    rw [updA_comm ne, upd_back (k _ _ hd)]
    rw [updA_ne ne] at ht
    exact q t ht
/-- a locked dict's keys are walked -/
theorem wpi_dk {tg : Expr} {R : RW} (h : WPE X e δ A fun d A1 => ∃ p od us kvs, d = .ref p ∧ A1 p = some (.prim (.roK od us kvs)) ∧ R kvs.length (fun i => (kvs.map fun q => kD q.1).getD i .non) (fun A' => A' p = some (.prim (.roK od us kvs))) A1) : WPI X tg e δ A R := fun σ H sl r R0 hR0 => by
  refine runI.of (pi_keys pe_run) (runE.mono (h σ H sl r) fun v H1 ⟨d, A1, k1, rp, r1, p, od, us, kvs, ed, hp, hq⟩ => ?_)
  subst ed
  cases rp
  obtain ⟨hu, kv⟩ := r1.at_ hp
  have hl : us.length = kvs.length := Paired.length kv
  refine ⟨p, od, rfl, .inl ⟨us, hu, hR0 (Itk p od us) H1 kvs.length _ _ A1 (fun H' => H' p = some (.frz od (.dK us))) k1 r1 ⟨fun i H' hi g => ⟨g, by rw [hl]; exact hi⟩, fun H' g => ⟨g, Nat.le_of_eq hl⟩, fun i H' x H'' hi g ⟨e1, k, v, e2, e3⟩ => ?_⟩ (fun A' H' _ r' (e' : A' p = some (.prim (.roK od us kvs))) => (r'.at_ e').1) hq⟩⟩
  subst e1 e3
  refine ⟨Kp.refl _, fun _ r => r, ?_⟩
  obtain ⟨y, hy, ek, _⟩ := Paired.get0 kv e2
  have : (kvs.map fun q => kD q.1).getD i .non = kD k := getD_of (by rw [List.getElem?_map, hy]; show some (kD y.1) = _; rw [← ek])
  show Rp X.K H'' (kV k) ((kvs.map fun q => kD q.1).getD i .non)
  rw [this]
  cases k with
  | inl j => exact .int
  | inr s => exact .str
theorem evi_dk {tg : Expr} {od : Obj} {us : List (Key × V)} (h : Ev X e δ A (.ref p)) (hp : A p = some (.prim (.roK od us kvs))) : EvI X tg e δ A (kvs.map fun q => kD q.1) := fun A1 k R hR =>
  wpi_dk ((h.sub k).wp ⟨p, od, us, kvs, rfl, k _ _ hp, by
    have t := hR (fun A' => A' p = some (.prim (.roK od us kvs))) (fun i => (kvs.map fun q => kD q.1).getD i .non) (fun A2 k2 => k2 _ _ (k _ _ hp)) fun i hi => getD_some hi
    rw [List.length_map] at t
    exact t⟩)
theorem ev_dgetR {od : Obj} {us : List (Key × V)} {k : Key} (hu : X.A.units + 1 < cLine) (ho : Ev X o δ A (.ref p)) (hi : Ev X i_ δ A (kD k)) (hp : A p = some (.prim (.roK od us kvs))) (hv : valD kvs k = some d) (hs : NoSl i_ := by exact fun _ _ => rfl) : Ev X (.Subscript o i_ pos) δ A d := fun A1 kk Q q σ H s r => by
  refine runE.of (pe_dget hu pe_run pe_run hs) (runE.mono (wpe_two (R := fun x' y' A2 => x' = .ref p ∧ y' = kD k ∧ A2 = A1) (ho A1 kk _ (hi A1 kk _ ⟨rfl, rfl, rfl⟩)) s r) fun vx H1 h => runE.mono h fun vy H2 ⟨x', y', A2, k2, rx, ry, hr, e1, e2, e3⟩ => ?_)
  subst e1 e2 e3
  cases rx
  have ey := kv_kD ry
  subst ey
  obtain ⟨h1, h2⟩ := hr.at_ (kk _ _ hp)
  have z := kvr_val (k := k) h2
  rw [hv] at z
  obtain ⟨v, e, rv⟩ := z
  exact ⟨p, v, rfl, by rw [← e]; exact .inl ⟨us, k, .inr ⟨od, h1⟩, rfl, rfl⟩, d, A2, k2, rv, hr, q⟩
end TL
/-! texts: join, f-strings, sorted lists of texts -/
namespace TL
open PySem PySem.Spec PyProof.Rows L2
variable {X : Cx} {N : List Str} {sc : Scope} {e a b c o i_ v_ : Expr} {es : List Expr} {δ : Ds} {A : AH} {Q : TQ} {d x y z : TL.D} {pos apos p_ : Pos}
theorem rps_strs {K : PySem.W.Frag} {H : Hp} : ∀ {ys : List Str} {vs : List V}, Rps K H vs (ys.map TL.D.str) → vs = ys.map V.str
  | [], _, h => rps_nil h
  | y :: ys, vs, h => by
    obtain ⟨v, r, rfl, h1, h2⟩ := rps_cons h
    cases h1
    rw [rps_strs h2]; rfl
theorem strs_rps {K : PySem.W.Frag} {H : Hp} : ∀ ys : List Str, Rps K H (ys.map V.str) (ys.map TL.D.str)
  | [] => .nil
  | _ :: r => .cons .str (strs_rps r)
def lenS (ys : List Str) (a : Str) : Nat := (ys.map (·.length)).sum + ys.length * a.length
theorem ev_drop' {z : TL.D} (h : ∀ A1, TL.Sub A A1 → WPE X e δ A1 fun d A' => d = z ∧ TL.Sub A1 A') : Ev X e δ A z := fun A1 k Q q => WPE.monoV (h A1 k) fun d A' ⟨e, s⟩ => ⟨A1, Vw.sub s, by rw [e]; exact q⟩
/-- a.join(t), t a tuple of texts -/
theorem ev_joinT {s : Str} {ys : List Str} (ho : Ev X o δ A (.str s)) (he : Ev X e δ A (.tup (ys.map .str))) (hz : lenS ys s ≤ 16777216) (hs : starEach [e] X.env = [(false, eval e X.env)] := by rfl) (hbase : attributeBase o "join" X.env (eval o X.env) = eval o X.env := by rfl) (hline : (apos.endLine == pos.line) = true := by rfl) :
    Ev X (.Call (.Attribute o "join" apos) [e] [] pos) δ A (.str (Txt.join s ys)) := fun A1 k Q q σ H sl r =>
  runE.of (pe_join pe_run pe_run hs hbase hline) (runE.mono (ho A1 k (fun d A2 => d = .str s ∧ A2 = A1) ⟨rfl, rfl⟩ σ H sl r) fun vx H1 ⟨d, A2, k1, rx, hr, e1, e2⟩ => by
    subst e1 e2
    cases rx
    refine ⟨⟨s, rfl⟩, runE.mono (he A2 k (fun d A3 => d = .tup (ys.map .str) ∧ A3 = A2) ⟨rfl, rfl⟩ σ H1 (sl.keep k1) hr) fun vy H2 ⟨d, A3, k2, ry, hr2, e1, e2⟩ => ?_⟩
    subst e1 e2
    obtain ⟨p, vs, rfl, ht, hv⟩ := ry.tup_inv
    rw [rps_strs hv] at ht
    exact ⟨s, p, ys, rfl, rfl, .inr ht, hz, _, _, k1.trans k2, .str, hr2, q⟩)
/-- a.join(l), l a new list of texts -/
theorem ev_joinN {s : Str} {ys : List Str} (ho : Ev X o δ A (.str s)) (he : EvN X e δ A (.lst (ys.map .str))) (hz : lenS ys s ≤ 16777216) (hs : starEach [e] X.env = [(false, eval e X.env)] := by rfl) (hbase : attributeBase o "join" X.env (eval o X.env) = eval o X.env := by rfl) (hline : (apos.endLine == pos.line) = true := by rfl) :
    Ev X (.Call (.Attribute o "join" apos) [e] [] pos) δ A (.str (Txt.join s ys)) := ev_drop' fun A1 k σ H sl r =>
  runE.of (pe_join pe_run pe_run hs hbase hline) (runE.mono (ho A1 k (fun d A2 => d = .str s ∧ A2 = A1) ⟨rfl, rfl⟩ σ H sl r) fun vx H1 ⟨d, A2, k1, rx, hr, e1, e2⟩ => by
    subst e1 e2
    cases rx
    refine ⟨⟨s, rfl⟩, runE.mono (he A2 k (fun d A3 => ∃ p, d = .ref p ∧ A3 p = some (.prim (.lst (ys.map .str))) ∧ TL.Sub A2 A3) (fun p hp => ⟨p, rfl, updA_same, Sub.upd (Sub.refl _) hp⟩) σ H1 (sl.keep k1) hr) fun vy H2 ⟨d, A3, k2, ry, hr2, p, e1, hp, s2⟩ => ?_⟩
    subst e1
    cases ry
    obtain ⟨vs, hl, hv⟩ := hr2.at_ hp
    rw [rps_strs hv] at hl
    exact ⟨s, p, ys, rfl, rfl, .inl (.inl (.inl hl)), hz, _, _, k1.trans k2, .str, hr2, rfl, s2⟩)
/-- f-strings -/
theorem ev_fmt {s : Str} (h : Ev X e δ A (.str s)) (hz : s.length ≤ sizeLine) : Ev X (.FormattedValue e (-1) none pos) δ A (.str s) := fun A1 k Q q σ H sl r =>
  runE.of (pe_fmt pe_run) (runE.mono (h A1 k (fun d A2 => d = .str s ∧ A2 = A1) ⟨rfl, rfl⟩ σ H sl r) fun vx H1 ⟨d, A2, k1, rx, hr, e1, e2⟩ => by
    subst e1 e2
    cases rx
    exact .inl ⟨s, rfl, hz, _, _, k1, .str, hr, q⟩)
inductive EvJ (X : Cx) (δ : Ds) (A : AH) : List Expr → List Str → Prop
  | nil : EvJ X δ A [] []
  | cons {e : Expr} {es : List Expr} {s : Str} {ys : List Str} (h : Ev X e δ A (.str s)) (r : EvJ X δ A es ys) : EvJ X δ A (e :: es) (s :: ys)
def runJs (X : Cx) (es : List Expr) : List TE := es.map (runE X)
theorem pj_runs : ∀ es : List Expr, PJ X es (runJs X es)
  | [] => .nil
  | e :: es => .cons pe_run (pj_runs es)
theorem len_app' (a b : Str) : (a ++ b).length = a.length + b.length := by
  show (a.cps ++ b.cps).size = _
  rw [Array.size_append]; rfl
theorem js_run {δ : Ds} {A A1 : AH} (k : TL.Sub A A1) {σ : L2.St} {Q : Str → Hp → Prop} : ∀ {es : List Expr} {ys : List Str} {acc : Str} {H : Hp}, EvJ X δ A es ys → Sl X.K H σ δ → HR X.K A1 H → acc.length + (ys.map (·.length)).sum ≤ sizeLine → (∀ H', Kp X.K H H' → HR X.K A1 H' → Q (ys.foldl (· ++ ·) acc) H') → tJs (runJs X es) acc σ H Q
  | _, _, acc, H, .nil, sl, r, hz, q => q H (Kp.refl _) r
  | _, _, acc, H, .cons (s := s) (ys := ys) h r', sl, r, hz, q => by
    refine runE.mono (h A1 k (fun d A2 => d = .str s ∧ A2 = A1) ⟨rfl, rfl⟩ σ H sl r) fun vx H1 ⟨d, A2, k1, rx, hr, e1, e2⟩ => ?_
    subst e1 e2
    cases rx
    rw [List.map_cons, List.sum_cons] at hz
    exact ⟨s, rfl, by rw [len_app']; omega, js_run k r' (sl.keep k1) hr (by rw [len_app']; omega) fun H' k2 hr2 => q H' (k1.trans k2) hr2⟩
/-- f'..' of two parts or more -/
theorem ev_joined {v1 v2 : Expr} {rest : List Expr} {ys : List Str} (h : EvJ X δ A (v1 :: v2 :: rest) ys) (hz : (ys.map (·.length)).sum ≤ sizeLine) : Ev X (.JoinedStr (v1 :: v2 :: rest) pos) δ A (.str (ys.foldl (· ++ ·) "")) := fun A1 k Q q σ H sl r =>
  runE.of (pe_joined (pj_runs _)) (js_run k h sl r (by show 0 + _ ≤ _; omega) fun H' k2 hr => ⟨_, _, k2, .str, hr, q⟩)
/-- sorted(l), l a new list of different texts -/
theorem BC.esorted {xs : List Str} (B : BC X N sc) (hg : sc.names.lookup ("sorted" : Str) = some .globalImplicit) (hmg : X.mg "sorted" = none) (he : EvN X e δ A (.lst (xs.map .str))) (nd : xs.Nodup) (hz : xs.length < 64) (hs : starEach [e] X.env = (false, eval e X.env) :: starEach [] X.env := by rfl) :
    EvN X (.Call (.Name "sorted" p_) [e] [] pos) δ A (.lst ((ordS xs).map .str)) := EvN.via fun A1 k =>
  B.callB hg hmg bt_sorted (wpa_cons (EvN.wp (he.sub k) fun p hp => wpa_nil ⟨rSortedS X.K, cr_sortedS, fun H vs hr rps R q => by
    obtain ⟨v, rfl, rv⟩ := rps1 rps
    cases rv
    obtain ⟨us, hl, hu⟩ := hr.at_ (show updA A1 p (.prim (.lst (xs.map .str))) p = some (.prim (.lst (xs.map .str))) from updA_same)
    rw [rps_strs hu] at hl
    refine ⟨p, xs, rfl, .inl (.inl hl), hz, fun ys t pm sr ht => ?_⟩
    have e : ys = ordS xs := ordS_eq sr (pm.nodup_iff.mpr nd) fun x => pm.mem_iff
    have ex := ex_upd (o := .lst (ys.map V.str)) ht
    have kk : Kp X.K H (upd H t (.lst (ys.map V.str))) := kp_ex ex
    refine q (.ref t) _ (.ref t) _ kk .ref (hr.new (o := .lst ((ordS xs).map .str)) ht kk ex ⟨_, upd_same, ?_⟩) ⟨t, rfl, Sub.none (Sub.upd (Sub.refl _) hp) (hr.free ht), Sub.both (Sub.upd (Sub.refl _) hp)⟩
    rw [e]
    exact strs_rps _⟩) hs) (he := hs)
end TL
/-! comprehensions in comprehensions; their names may be cells -/
namespace TL
open PySem PySem.Spec PyProof.Rows L2
variable {X : Cx} {N : List Str} {sc : Scope} {e a b c o i_ v_ : Expr} {es : List Expr} {st : Stmt} {rest : List Stmt} {δ : Ds} {A : AH} {Q : TQ} {D : TEnds} {d x y z : TL.D} {pos apos p_ : Pos}
theorem BC.lbG {scope : Scope} {s : Str} {j : Nat} {pt : Pos} (B : BC X N sc) (hj : N[j]? = some s) (hl : Loc scope s) (st : Shared) (H0 : Hp) (C : Addr) (cl : List (Str × Addr)) (fp : List Addr) : PG (Blk X scope st H0 C cl fp) (.Name s pt) (gName j) := by
  have hn : (Blk X scope st H0 C cl fp).N[j]? = some s := by show X.N[j]? = some s; rw [B.n]; exact hj
  rcases hl with hl | hl
  · have z : (relabel scope X.env).names.lookup s = some .local := by
      rcases lookup_relabel (env := X.env) hl with z | ⟨z, _⟩
      · exact z
      · cases z
    exact pg_name B.nd hn (.inl z) (.inr z)
  · have z : (relabel scope X.env).names.lookup s = some .cell := by
      rcases lookup_relabel (env := X.env) hl with z | ⟨z, _⟩
      · exact z
      · cases z
    exact pg_name B.nd hn (.inr z) (.inl (by show (scope.names.lookup s == some .cell) = true; rw [hl]; rfl))
theorem BC.lbC {scope : Scope} {own : List (Str × Nat)} {s : Str} {j : Nat} {elt iter : Expr} {pt : Pos} (q : Ifs) (hv : j ∈ own.map (·.2))
    (h : WPI X (.Name s pt) iter δ A fun n f G A1 => ∀ Dl, A1 Dl = none → ∃ (W : Nat → AH → Prop) (kp : Nat → Bool), W 0 (updA A1 Dl (.prim (.lst []))) ∧ (∀ i A', i ≤ n → W i A' → G A') ∧
      (∀ i A', i < n → W i A' → EvF X scope ((wipeD δ (own.map (·.2))).set j (some (f i))) A' (kp i) q ∧
        (kp i = true → ∀ s H0 C cl fp, WPE (Blk X scope s H0 C cl fp) elt ((wipeD δ (own.map (·.2))).set j (some (f i))) A' fun d A4 => ∃ acc, A4 Dl = some (.prim (.lst acc)) ∧ acc.length < sizeLine ∧ WVA W (i + 1) (updA A4 Dl (.prim (.lst (acc ++ [d]))))) ∧
        (kp i = false → WVA W (i + 1) A')) ∧
      (∀ A', W n A' → Q (.ref Dl) A'))
    {σ : St} {H : Hp} (sl : Sl X.K H σ δ) (r : HR X.K A H) {R : VK} (hR : ∀ v H', LQ X.K H Q v H' → R v H') : tLc (runI X (.Name s pt) iter) (gName j) (famI X scope q) (famE X scope elt) (own.map (·.2)) σ H R := by
  refine h σ H sl r _ fun J H1 n f G A1 YG k1 hr1 wk hG h2 => fun Dl hD => ?_
  obtain ⟨W, kp, h0, hg, hstep, hend⟩ := h2 Dl (hr1.free hD)
  have ex := ex_upd (o := .lst []) hD
  have kk : Kp X.K H1 (upd H1 Dl (.lst [])) := kp_ex ex
  refine lc_it wk (fun i H' => ∃ A', Kp X.K H1 H' ∧ HR X.K A' H' ∧ W i A') ⟨_, kk, hr1.new (o := .lst []) hD kk ex ⟨[], upd_same, .nil⟩, h0⟩ (fun i H' hi ⟨A', k, hr, w⟩ => hG A' H' k hr (hg i A' hi w)) (fun i v H' H'' hi ⟨A', k, hr, w⟩ ⟨ky, ay, rp⟩ => ⟨wipe_set hv, ?_⟩) fun H' ⟨A', k, hr, w⟩ => hR _ _ ⟨.ref Dl, A', k1.trans k, .ref, hr, hend A' w⟩
  have hr' := ay A' hr
  have k' : Kp X.K H1 H'' := k.trans ky
  have sl' : Sl X.K H'' ((wipe σ (own.map (·.2))).set j (some v)) ((wipeD δ (own.map (·.2))).set j (some (f i))) := ((sl_wipe sl _).keep (k1.trans k')).set j rp
  obtain ⟨z1, z2, z3⟩ := hstep i A' hi w
  have body : ∀ (k : Bool) (H3 : Hp), k = kp i → Kp X.K H'' H3 → HR X.K A' H3 →
      if k = true then famE X scope elt ((wipe σ (own.map (·.2))).set j (some v)) H3 (fun y H4 => ∃ acc, H4 Dl = some (.lst acc) ∧ acc.length < sizeLine ∧ ∃ A', Kp X.K H1 (upd H4 Dl (.lst (acc ++ [y]))) ∧ HR X.K A' (upd H4 Dl (.lst (acc ++ [y]))) ∧ W (i + 1) A') else ∃ A', Kp X.K H1 H3 ∧ HR X.K A' H3 ∧ W (i + 1) A' := fun k H3 ek k3 hr3 => by
    cases k with
    | true =>
      rw [if_pos rfl]
      refine fun st H0 C cl fp => runE.mono ((z2 ek.symm st H0 C cl fp) _ H3 (sl'.keep k3) hr3) fun vd H4 ⟨d, A4, k4, rd, hr4, acc, ha, hl, A5, vw, w5⟩ => ?_
      obtain ⟨ws, hw, rw'⟩ := hr4.at_ ha
      obtain ⟨k5, hr5⟩ := hr_write (m' := .lst (acc ++ [d])) (u' := .lst (ws ++ [vd])) hr4 ha hw (by intro _ z; cases z) (by intro _ _ z; cases z) fun k => ⟨_, upd_same, Rps.keep (Paired.app rw' (.cons rd .nil)) k⟩
      exact ⟨ws, hw, by rw [Paired.length rw']; exact hl, A5, ((k'.trans k3).trans k4).trans k5, vw _ _ hr5, w5⟩
    | false =>
      rw [if_neg Bool.false_ne_true]
      obtain ⟨A5, vw, w5⟩ := z3 ek.symm
      exact ⟨A5, k'.trans k3, vw _ _ hr3, w5⟩
  cases q with
  | no =>
    have e1 : true = kp i := Eq.symm z1
    exact body true H'' e1 (Kp.refl _) hr'
  | one c => exact fun st H0 C cl fp => runT.mono ((z1 st H0 C cl fp) A' (Sub.refl A') (fun b A2 => b = kp i ∧ A2 = A') ⟨rfl, rfl⟩ _ H'' sl' hr') fun b H3 ⟨A2, k3, hr3, e1, e2⟩ => by subst e2; exact body b H3 e1 k3 hr3

theorem BC.lb {sc2 : Scope} {scope : Scope} {own : List (Str × Nat)} {s : Str} {j : Nat} {elt iter : Expr} {pt : Pos} (q : Ifs) (B : BC X N sc) (hsc : X.env.scope = sc2) (ok : blkC N sc2 scope own = true) (hj : N[j]? = some s) (hl : Loc scope s) (hv : j ∈ own.map (·.2))
    (h : WPI X (.Name s pt) iter δ A fun n f G A1 => ∀ Dl, A1 Dl = none → ∃ (W : Nat → AH → Prop) (kp : Nat → Bool), W 0 (updA A1 Dl (.prim (.lst []))) ∧ (∀ i A', i ≤ n → W i A' → G A') ∧
      (∀ i A', i < n → W i A' → EvF X scope ((wipeD δ (own.map (·.2))).set j (some (f i))) A' (kp i) q ∧
        (kp i = true → ∀ s H0 C cl fp, WPE (Blk X scope s H0 C cl fp) elt ((wipeD δ (own.map (·.2))).set j (some (f i))) A' fun d A4 => ∃ acc, A4 Dl = some (.prim (.lst acc)) ∧ acc.length < sizeLine ∧ WVA W (i + 1) (updA A4 Dl (.prim (.lst (acc ++ [d]))))) ∧
        (kp i = false → WVA W (i + 1) A')) ∧
      (∀ A', W n A' → Q (.ref Dl) A')) (hs : ∀ x, foldedSetIterable iter X.env x = pure x := by intro _; rfl) : WPE X (.ListComp elt [⟨.Name s pt, iter, q.list, 0⟩] scope pos) δ A Q := fun σ H sl r =>
  runE.of (pe_lc (own := own) (wi := runI X (.Name s pt) iter) (g := gName j) (tt := famI X scope q) (te := famE X scope elt) B.calm B.nd pi_run (by rw [B.n, hsc]; exact blkOk_by ok) (BC.lbG B hj hl) (BC.lcT q) BC.lcE hs) (BC.lbC q hv h sl r fun _ _ z => z)
theorem SC.setLb {y : Str} {iy : Nat} {py spos : Pos} {scope : Scope} {own : List (Str × Nat)} {s : Str} {j : Nat} {elt iter : Expr} {pt : Pos} (q : Ifs) (B : SC X N sc) (hk : sc.kind = .function) (hy : N[iy]? = some y) (hyl : sc.names.lookup y = some .local) (hln : (py.line == pos.line) = true) (hna : (scope.names.any fun (n, k) => n == y && (k == .local || k == .cell)) = false) (ok : blkC N sc scope own = true) (hj : N[j]? = some s) (hl : Loc scope s) (hv : j ∈ own.map (·.2))
    (h : WPI X (.Name s pt) iter δ A fun n f G A1 => ∀ Dl, A1 Dl = none → ∃ (W : Nat → AH → Prop) (kp : Nat → Bool), W 0 (updA A1 Dl (.prim (.lst []))) ∧ (∀ i A', i ≤ n → W i A' → G A') ∧
      (∀ i A', i < n → W i A' → EvF X scope ((wipeD δ (own.map (·.2))).set j (some (f i))) A' (kp i) q ∧
        (kp i = true → ∀ s H0 C cl fp, WPE (Blk X scope s H0 C cl fp) elt ((wipeD δ (own.map (·.2))).set j (some (f i))) A' fun d A4 => ∃ acc, A4 Dl = some (.prim (.lst acc)) ∧ acc.length < sizeLine ∧ WVA W (i + 1) (updA A4 Dl (.prim (.lst (acc ++ [d]))))) ∧
        (kp i = false → WVA W (i + 1) A')) ∧
      (∀ A', W n A' → D.nx (δ.set iy (some (.ref Dl))) A')) (hs : ∀ x, foldedSetIterable iter X.env x = pure x := by intro _; rfl) : WPS X (.Assign [.Name y py] (.ListComp elt [⟨.Name s pt, iter, q.list, 0⟩] scope pos) spos) δ A D := fun σ H sl r => by
  refine runS.of (ps_setLc (own := own) (wi := runI X (.Name s pt) iter) (g := gName j) (tt := famI X scope q) (te := famE X scope elt) B.calm B.nd (by rw [B.n]; exact hy) (by rw [B.sc]; exact hyl) (sw_true (by rw [B.sc]; exact hk) (by rw [B.sc]; exact hyl) hln hna) pi_run (BC.lcB B ok) (BC.lbG B.toBC hj hl) (BC.lcT q) BC.lcE hs) ?_
  exact BC.lbC (Q := fun d A1 => D.nx (δ.set iy (some d)) A1) q hv h sl r fun v H' ⟨d, A', k, rp, hr, z⟩ => ⟨δ.set iy (some d), A', k, (sl.keep k).set iy rp, hr, z⟩

theorem BC.elb {sc2 : Scope} {α : Type} {scope : Scope} {own : List (Str × Nat)} {s : Str} {j : Nat} {elt iter : Expr} {pt : Pos} {ys : List α} {en : α → TL.D} (q : Ifs) (kp : α → Bool) (g : α → TL.D) (B : BC X N sc) (hsc : X.env.scope = sc2) (ok : blkC N sc2 scope own = true) (hj : N[j]? = some s) (hl : Loc scope s) (hv : j ∈ own.map (·.2))
    (hi : EvI X (.Name s pt) iter δ A (ys.map en)) (hz : ys.length ≤ sizeLine) (ht : ∀ y ∈ ys, EvF X scope ((wipeD δ (own.map (·.2))).set j (some (en y))) A (kp y) q)
    (he : ∀ y ∈ ys, kp y = true → ∀ s H0 C cl fp, Ev (Blk X scope s H0 C cl fp) elt ((wipeD δ (own.map (·.2))).set j (some (en y))) A (g y)) (hs : ∀ x, foldedSetIterable iter X.env x = pure x := by intro _; rfl) :
    EvN X (.ListComp elt [⟨.Name s pt, iter, q.list, 0⟩] scope pos) δ A (.lst ((ys.filter kp).map g)) := fun A1 k Q qq => BC.lb q B hsc ok hj hl hv (lc_pure q kp g hi hz ht he k qq) hs
theorem SC.selb {α : Type} {y : Str} {iy : Nat} {py spos : Pos} {scope : Scope} {own : List (Str × Nat)} {s : Str} {j : Nat} {elt iter : Expr} {pt : Pos} {ys : List α} {en : α → TL.D} (q : Ifs) (kp : α → Bool) (g : α → TL.D) (B : SC X N sc) (hk : sc.kind = .function) (hy : N[iy]? = some y) (hyl : sc.names.lookup y = some .local) (hln : (py.line == pos.line) = true) (hna : (scope.names.any fun (n, k) => n == y && (k == .local || k == .cell)) = false) (ok : blkC N sc scope own = true) (hj : N[j]? = some s) (hl : Loc scope s) (hv : j ∈ own.map (·.2))
    (hi : EvI X (.Name s pt) iter δ A (ys.map en)) (hz : ys.length ≤ sizeLine) (ht : ∀ y ∈ ys, EvF X scope ((wipeD δ (own.map (·.2))).set j (some (en y))) A (kp y) q)
    (he : ∀ y ∈ ys, kp y = true → ∀ s H0 C cl fp, Ev (Blk X scope s H0 C cl fp) elt ((wipeD δ (own.map (·.2))).set j (some (en y))) A (g y)) (qq : ∀ p, A p = none → D.nx (δ.set iy (some (.ref p))) (updA A p (.prim (.lst ((ys.filter kp).map g))))) (hs : ∀ x, foldedSetIterable iter X.env x = pure x := by intro _; rfl) :
    WPS X (.Assign [.Name y py] (.ListComp elt [⟨.Name s pt, iter, q.list, 0⟩] scope pos) spos) δ A D := SC.setLb q B hk hy hyl hln hna ok hj hl hv (lc_pure (Q := fun d A' => D.nx (δ.set iy (some d)) A') q kp g hi hz ht he (Sub.refl A) qq) hs
/-- where a block stands -/
theorem blk_scope {scope sc0 : Scope} {s : Shared} {H0 : Hp} {C : Addr} {cl : List (Str × Addr)} {fp : List Addr} (h : X.env.scope = sc0) : (Blk X scope s H0 C cl fp).env.scope = relS scope sc0 := by
  subst h; rfl
/-- all([..]), any([..]) of a comprehension -/
theorem et_allN {bs : List Bool} (B : BC X N sc) (hg : sc.names.lookup ("all" : Str) = some .globalImplicit) (hm : X.mg "all" = none) (h : EvN X e δ A (.lst (bs.map TL.D.bl))) (he : starEach [e] X.env = (false, eval e X.env) :: starEach [] X.env := by rfl) (hi : ∀ whole, isTrue (.Call (.Name "all" p_) [e] [] pos) X.env whole = (do let v ← whole; standAt (Expr.Call (.Name "all" p_) [e] [] pos).pos; holding [v] (truthy v)) := by intro _; rfl) : EvT X (.Call (.Name "all" p_) [e] [] pos) δ A (bs.all id) :=
  et_val (B.eBN hg hm bt_all h (fun A1 p _ hp => cav_all B.calm (.inl hp)) (he := he)) hi
end TL
/-! list(text) -/
namespace TL
open PySem PySem.Spec PyProof.Rows L2
section
variable {X : Cx} {A : AH} {Q : TQ}
theorem call_listS (hc : X.calm = true) : CallR X (.type "list") (fun xs H Q => ∃ z : Str, xs = [.str z] ∧ z.length ≤ sizeLine ∧ ∀ l, H l = none → Q (.ref l) (upd H l (.lst (z.cps.toList.map fun c => V.str ⟨#[c]⟩)))) := by
  intro pins s σ H xs us Q I r ⟨z, e, hz, q⟩
  subst e
  obtain ⟨u, eu, rx⟩ := vals1 r
  subst eu
  obtain ⟨t, rfl⟩ := rx
  refine PySem.call_list_str (I.ok.hd hc) z t (hn := hz) fun h' tk acc' c' hkeep hS hacc => ?_
  refine ⟨.ref s.heap.objs.size, upd H s.heap.objs.size (.lst (z.cps.toList.map fun c => V.str ⟨#[c]⟩)), I.laid hkeep (Nat.le_refl _) (show ObjOk X.prog X.w _ _ _ (.lst (z.cps.toList.map fun c => V.str ⟨#[c]⟩)) from ⟨?_, acc'.toList, c', ?_, ?_⟩), rfl, q _ (I.hok.fresh (Nat.le_refl _))⟩
  · rw [List.length_map]; exact hz
  · have el : acc'.toList.length = acc'.size := by simp
    refine vals_of_at (by rw [List.length_map, el, hacc.1]; simp) fun j x w h1 h2 => ?_
    obtain ⟨c, u, hc1, rfl⟩ := hacc.2 j w (by rw [← Array.getElem?_toList]; exact h2)
    rw [List.getElem?_map, Array.getElem?_toList, hc1] at h1
    cases h1
    exact ⟨u, rfl⟩
  · rw [Array.toArray_toList]; exact hS
/-- list(a text) -/
theorem caw_listS {z : Str} (hc : X.calm = true) (hz : z.length ≤ sizeLine) (q : ∀ l, A l = none → Q (.ref l) (updA A l (.prim (.lst ((z.cps.toList.map fun c => (⟨#[c]⟩ : Str)).map .str))))) : CaW X (.type "list") [.str z] A Q := ⟨_, call_listS hc, fun H vs hr rps R hR => by
  obtain ⟨v, rfl, hv⟩ := rps1 rps
  cases hv
  refine ⟨z, rfl, hz, fun l hl => ?_⟩
  have ex := ex_upd (o := .lst (z.cps.toList.map fun c => V.str ⟨#[c]⟩)) hl
  have kk : Kp X.K H (upd H l (.lst (z.cps.toList.map fun c => V.str ⟨#[c]⟩))) := kp_ex ex
  refine hR _ _ (.ref l) _ kk .ref (hr.new (o := .lst ((z.cps.toList.map fun c => (⟨#[c]⟩ : Str)).map .str)) hl kk ex ⟨_, upd_same, ?_⟩) (q l (hr.free hl))
  clear kk ex
  generalize upd H l (.lst (z.cps.toList.map fun c => V.str ⟨#[c]⟩)) = H2
  generalize z.cps.toList = zs
  induction zs with
  | nil => exact .nil
  | cons a b ih => exact .cons .str ih⟩
/-- list(e), e a text: a new list -/
theorem BC.evn_listS {N : List Str} {sc : Scope} {δ : Ds} {e : Expr} {z : Str} {p_ pos : Pos} (B : BC X N sc) (hg : sc.names.lookup ("list" : Str) = some .globalImplicit) (hm : X.mg "list" = none) (h : Ev X e δ A (.str z)) (hz : z.length ≤ sizeLine) (hs : starEach [e] X.env = (false, eval e X.env) :: starEach [] X.env := by rfl) : EvN X (.Call (.Name "list" p_) [e] [] pos) δ A (.lst ((z.cps.toList.map fun c => (⟨#[c]⟩ : Str)).map .str)) := fun A1 k Q q =>
  B.callT hg hm bt_list (EvA.wp (eva_cons (h.sub k) eva_nil hs) (caw_listS B.calm hz q)) (he := hs)
end
section
variable {X : Cx} {N : List Str} {sc : Scope} {δ : Ds} {A : AH} {Q : TQ} {D : TEnds} {elt iter : Expr}
theorem WPI.mono {tg : Expr} {R R' : RW} (h : WPI X tg iter δ A R) (k : ∀ n f G A1, R n f G A1 → R' n f G A1) : WPI X tg iter δ A R' := fun σ H sl r R0 kk => h σ H sl r R0 fun J H1 n f G A1 YG k1 hr w g q => kk J H1 n f G A1 YG k1 hr w g (k _ _ _ _ q)
/-- name = [.. for x in [..] if ..] on one line -/
theorem SC.selcN {α : Type} {y : Str} {iy : Nat} {py spos : Pos} {pos : Pos} {scope : Scope} {own : List (Str × Nat)} {s : Str} {j : Nat} {pt : Pos} {ys : List α} {en : α → TL.D} (q : Ifs) (kp : α → Bool) (g : α → TL.D) (B : SC X N sc) (hk : sc.kind = .function) (hy : N[iy]? = some y) (hyl : sc.names.lookup y = some .local) (hln : (py.line == pos.line) = true) (hna : (scope.names.any fun (n, k) => n == y && (k == .local || k == .cell)) = false) (ok : blkC N sc scope own = true) (hj : N[j]? = some s) (hl : scope.names.lookup s = some .local) (hv : j ∈ own.map (·.2))
    (hi : EvN X iter δ A (.lst (ys.map en))) (hz : ys.length ≤ sizeLine) (ht : ∀ y ∈ ys, EvF X scope ((wipeD δ (own.map (·.2))).set j (some (en y))) A (kp y) q)
    (he : ∀ y ∈ ys, kp y = true → ∀ s H0 C cl fp, Ev (Blk X scope s H0 C cl fp) elt ((wipeD δ (own.map (·.2))).set j (some (en y))) A (g y))
    (qq : ∀ t A', TL.Sub A A' → A t = none → A' t = some (.prim (.lst ((ys.filter kp).map g))) → D.nx (δ.set iy (some (.ref t))) A')
    (hs : ∀ x, foldedSetIterable iter X.env x = pure x := by intro _; rfl) : WPS X (.Assign [.Name y py] (.ListComp elt [⟨.Name s pt, iter, q.list, 0⟩] scope pos) spos) δ A D := by
  refine B.setLc q hk hy hyl hln hna ok hj hl hv (WPI.mono (lc_pureN q kp g hi hz ht he (Sub.refl A)) fun n f G A1 h Dl hDl => ?_) hs
  obtain ⟨W, kp2, h1, h2, h3, h4⟩ := h Dl hDl
  refine ⟨W, kp2, h1, h2, h3, fun A' w => ?_⟩
  obtain ⟨t, e, n1, s1⟩ := h4 A' w
  cases e
  exact qq Dl A' ((Sub.upd (Sub.refl A) n1).trans s1) n1 (s1 _ _ updA_same)
end
end TL
/-! generators: if, for -/
namespace TL
open PySem PySem.Spec PyProof.Rows L2 GenW
section
variable {prog : Program} {w : World} {A : Around} {R : GenEnd} {Y : Protocol} {n : Nat} {s₀ : Shared} {fs : List Frame} {s : Shared} {env : Env} {c : Code}
  {K : Flow → Sem PySem.Fin} {J : Value → Sem PySem.Fin} {gd : Bool → Bool} {lv : List Value → List Value}
/-- what an exception does that leaves the loop's turn -/
def noted (env : Env) (e : Value) : Sem PySem.Fin := (do noteFrame e env; theTreesLotGoes e : Sem Unit).wrap (fun _ => .raise e) .raise id id
theorem seg_For {target iter : Expr} {body : List Stmt} {pos : Pos} (hs : ∀ x, foldedSetIterable iter env x = pure x)
    (h : wpAny (model prog w) (A.over c fs) (eval iter env) (fun x s1 => wpAny (model prog w) (A.over c fs) (pyIter x) (fun it s2 => ∀ p,
      Seg (model prog w) A R Y n s₀ (.forLoop target it body [] env) ((model prog w).den (.forLoop target it body [] env))
        (.ret (fun r => ((match r with | .ok f => (.pure f : Sem Flow) | .error e => .raise e).onRaise (cameBack env)).wrap K J gd lv) none (gd false) (lv []) c p [] :: fs) s2)
        (fun e s' => Seg (model prog w) A R Y n s₀ c (J e) fs s') s1) (fun e s' => Seg (model prog w) A R Y n s₀ c (J e) fs s') s) :
    Seg (model prog w) A R Y n s₀ c ((exec (.For target iter body [] pos) env).wrap K J gd lv) fs s := by
  rw [exec_For]
  refine seg_bind_wrap (wpAny_standAt ?_)
  refine seg_bind_wrap (wpAny_mono h (fun x s1 h1 => ?_) fun _ _ e => e)
  refine seg_bind_wrap (wpAny_of_eq (hs x) ?_)
  refine seg_bind_wrap (wpAny_standAt ?_)
  refine seg_bind_wrap (wpAny_holding (wpAny_mono h1 (fun it s2 h2 => ?_) fun _ _ e => e))
  exact seg_call h2
theorem seg_forLoop {target : Expr} {it : Value} {body : List Stmt}
    (h : wpAny (model prog w) (A.over (.forLoop target it body [] env) fs) (pyNext it) (fun r s1 => match r with
      | none => Seg (model prog w) A R Y n s₀ (.forLoop target it body [] env) (.pure (.again (.block [] env))) fs s1
      | some v => wpAny (model prog w) (A.over (.forLoop target it body [] env) fs) (letOwnedTupleGo target it v) (fun _ s2 =>
          wpAny (model prog w) (A.over (.forLoop target it body [] env) fs) (assign target env v) (fun _ s3 =>
            Seg (model prog w) A R Y n s₀ (.forLoop target it body [] env) ((execs body env).wrap (fun f => match f with
              | .next | .cont => .pure (.again (.forLoop target it body [] env))
              | .brk => .pure (.done .next)
              | .ret v => .pure (.done (.ret v))) (noted env) id id) fs s3)
            (fun x s' => Seg (model prog w) A R Y n s₀ (.forLoop target it body [] env) (noted env x) fs s') s2)
          (fun x s' => Seg (model prog w) A R Y n s₀ (.forLoop target it body [] env) (noted env x) fs s') s1)
      (fun x s' => Seg (model prog w) A R Y n s₀ (.forLoop target it body [] env) (noted env x) fs s') s) :
    Seg (model prog w) A R Y n s₀ (.forLoop target it body [] env) ((model prog w).den (.forLoop target it body [] env)) fs s := by
  have hn : ∀ e, (do noteFrame e env; theTreesLotGoes e : Sem Unit).bind (fun _ => (.raise e : Sem PySem.Fin)) = noted env e := fun e => by
    unfold noted
    rw [Sem.bind_eq_wrap]
  show Seg _ A R Y n s₀ _ ((forTurn target it body [] env).onRaise (fun x => do noteFrame x env; theTreesLotGoes x)) fs s
  unfold forTurn
  rw [Sem.onRaise_eq_wrap]
  have ex : ∀ {x : Value} {s' : Shared}, Seg (model prog w) A R Y n s₀ (.forLoop target it body [] env) (noted env x) fs s' → Seg (model prog w) A R Y n s₀ (.forLoop target it body [] env) ((do noteFrame x env; theTreesLotGoes x : Sem Unit).bind (fun _ => (.raise x : Sem PySem.Fin))) fs s' := fun {x s'} h => by rw [hn]; exact h
  refine seg_bind_wrap (wpAny_standAt ?_)
  refine seg_bind_wrap (wpAny_onRaise (wpAny_mono h (fun r s1 h1 => ?_) fun x s' hx => wpAny_standAt (ex hx)))
  cases r with
  | none => exact h1
  | some v =>
    refine seg_bind_wrap (wpAny_mono h1 (fun _ s2 h2 => ?_) fun x s' hx => ex hx)
    refine seg_bind_wrap (wpAny_mono h2 (fun _ s3 h3 => ?_) fun x s' hx => ex hx)
    rw [Sem.bind_eq_wrap', Sem.wrap_wrap]
    refine Eq.mpr ?_ h3
    refine congrArg (fun t => Seg (model prog w) A R Y n s₀ (Code.forLoop target it body [] env) t fs s3) ?_
    refine Sem.wrap_congr (execs body env) _ _ (fun f => ?_) (fun e => ?_)
    · cases f <;> rfl
    · exact hn e
end
section
variable {X : Cx}
def tGIf (c : TT) (tb te : TGn) : TGn := fun D ys σ H => c σ H fun b H1 => if b = true then tb D ys σ H1 else te D ys σ H1
theorem gs_if {test : Expr} {body orelse : List Stmt} {pos : Pos} {tc : TT} {tb te : TGn} (hc : PT X test tc) (hb : GSs X body tb) (he : GSs X orelse te) : GS X (.If test body orelse pos) (tGIf tc tb te) := by
  refine ⟨fun A S ip R n ys s₀ c fs K J gd lv s σ H D g hn k hI ht => ?_⟩
  obtain ⟨acc, cc, r, I⟩ := hI
  refine seg_bind_wrap (wpAny_standAt ?_)
  refine seg_bind_wrap ?_
  rw [g.over]
  refine wpAny_mono (hc.run _ s σ H _ I ht) (fun b s1 hb' => ?_) fun x s' hx => k.exc n s₀ x s' hx
  obtain ⟨H2, I2, q2⟩ := hb'
  cases b with
  | true =>
    rw [if_pos rfl] at q2 ⊢
    exact hb.run A S ip R n ys s₀ c fs K J gd lv s1 σ H2 D g hn k ⟨acc, cc, r, I2⟩ q2
  | false =>
    rw [if_neg Bool.false_ne_true] at q2 ⊢
    exact he.run A S ip R n ys s₀ c fs K J gd lv s1 σ H2 D g hn k ⟨acc, cc, r, I2⟩ q2
/-- for, in a generator's body -/
def tGFor (wi : TI) (g : TG) (tb : TGn) : TGn := fun D ys σ H => wi σ H fun J H1 => ∃ W : Nat → Nat → List V → St → Hp → Prop, (∃ m, W 0 m ys σ H1) ∧ ∀ i m ys σ H, W i m ys σ H →
  (J.stop i H ∧ D.nx ys σ H) ∨ (J.go i H ∧ ∃ N : List V → St → Hp → Prop, (∀ ys' σ' H', N ys' σ' H' → ∃ m', m' < m ∧ W (i + 1) m' ys' σ' H') ∧ ∀ x H', J.yld i H x H' → g x σ H' fun σ2 H2 => tb { D with nx := N, ct := N, bk := D.nx } ys σ2 H2)
theorem gs_for {iter tg : Expr} {body : List Stmt} {pos : Pos} {wi : TI} {g : TG} {tb : TGn} (hp : PassesOwn (model X.prog X.w) X.A X.env X.xe) (hcalm : X.calm = true) (hi : PI X tg iter wi) (hg : PG X tg g) (hb : GSs X body tb) (hs : ∀ x, foldedSetIterable iter X.env x = pure x := by intro _; rfl) : GS X (.For tg iter body [] pos) (tGFor wi g tb) := by
  refine ⟨fun A S ip R n ys s₀ c fs K J gd lv s σ H D gc hn k hI ht => ?_⟩
  obtain ⟨acc, cc, r, I⟩ := hI
  refine seg_For hs ?_
  rw [gc.over]
  refine wpAny_mono (hi.run _ s σ H _ I ht) (fun v s1 h1 => ?_) fun x s' hx => k.exc n s₀ x s' hx
  refine wpAny_mono h1 (fun itv s2 h2 => fun p => ?_) fun x s' hx => k.exc n s₀ x s' hx
  obtain ⟨it, fp, tn, Jt, H2, e, I2, T, st2, f2, W, ⟨m0, w0⟩, turn⟩ := h2
  subst e
  -- the iterator's objects: none of them is the consumer's list
  have hS : ∀ b ∈ fp, b ≠ S := fun b hb z => (f2 b hb).2.2.2.2.2 (S, lstObj acc cc) (List.mem_append_right _ List.mem_cons_self) z.symm
  have hip : ∀ b ∈ fp, ∀ p ∈ X.pn ++ ip, p.1 ≠ b := fun b hb p hp => (f2 b hb).2.2.2.2.2 p ((List.mem_append.mp hp).elim (fun z => List.mem_append_left _ z) fun z => List.mem_append_right _ (List.mem_cons_of_mem _ z))
  have stat : ∀ {H' : Hp} {acc' : Array Value} {c' : Nat}, (∀ b ∈ fp, H' b = none) → ∀ b ∈ fp, FpOk X ((S, lstObj acc' c') :: ip) H' b := fun {H' acc' c'} hn b hb => by
    obtain ⟨_, q1, q2, q3, q4, _⟩ := f2 b hb
    refine ⟨hn b hb, q1, q2, q3, q4, fun p hp => ?_⟩
    rcases List.mem_append.mp hp with z | z
    · exact hip b hb p (List.mem_append_left _ z)
    · rcases List.mem_cons.mp z with z | z
      · rw [z]; exact (hS b hb).symm
      · exact hip b hb p (List.mem_append_right _ z)
  have gl := fun (kk : Result → Sem PySem.Fin) => gc_loop (k := kk) (c' := .forLoop tg (.ref it) body [] X.env) (l := lv []) (kp := []) (p := p) gc rfl rfl
  have loop : ∀ (m i n : Nat) (ys : List V) (s₀ s : Shared) (σ : St) (H : Hp), n + ys.length = sizeLine → W i m ys σ H → tn i s.heap → (∀ b ∈ fp, H b = none) → GI X S ip ys σ H s →
      Seg (model X.prog X.w) A R (GY X S) n s₀ (.forLoop tg (.ref it) body [] X.env) ((model X.prog X.w).den (.forLoop tg (.ref it) body [] X.env))
        (.ret (fun r => ((match r with | .ok f => (.pure f : Sem Flow) | .error e => .raise e).onRaise (cameBack X.env)).wrap K J gd lv) none (gd false) (lv []) c p [] :: fs) s := by
    intro m
    induction m using Nat.strongRecOn with
    | ind m ih =>
      intro i n ys s₀ s σ H hn w st fr hI
      have ee : ∀ (n : Nat) (s₀ : Shared) (x : Value) (s' : Shared), X.xe x s' → Seg (model X.prog X.w) A R (GY X S) n s₀ (.forLoop tg (.ref it) body [] X.env) (noted X.env x)
          (.ret (fun r => ((match r with | .ok f => (.pure f : Sem Flow) | .error e => .raise e).onRaise (cameBack X.env)).wrap K J gd lv) none (gd false) (lv []) c p [] :: fs) s' := fun n s₀ x s' hx => by
        refine seg_wrap ?_
        rw [(gl _).over]
        refine wpAny_bind (wpAny_mono (hp x s' hx) (fun _ s'' hcb => wpAny_theTreesLotGoes ?_) fun y s'' hcb => ?_)
        · exact seg_leaf (.error x) (seg_cameBack gc k hcb)
        · exact seg_leaf (.error y) (seg_cameBack gc k hcb)
      refine seg_forLoop ?_
      rw [(gl _).over]
      obtain ⟨acc, cc, r, I⟩ := hI
      rcases turn i m ys σ H w with ⟨stop, qn⟩ | ⟨go, N, hN, step⟩
      · refine wpAny_mono (T.done X rfl rfl rfl hcalm i _ s σ H X.xe I (stat fr) st stop) (fun r s4 ⟨hr, I4⟩ => ?_) fun x s' hx => ee n s₀ x s' hx
        subst hr
        refine seg_again rfl ?_
        exact seg_leaf (.ok .next) (k.ok n ys s₀ s4 .next hn ⟨σ, H, ⟨acc, cc, ‹_›, I4⟩, qn⟩)
      · refine wpAny_mono (T.item X rfl rfl rfl hcalm i _ s σ H X.xe I (stat fr) st go) (fun r s4 ⟨u, hr, h4⟩ => ?_) fun x s' hx => ee n s₀ x s' hx
        subst hr
        refine wpAny_mono h4 (fun _ s5 ⟨x, H5, I5, r5, y5, st5, fr5⟩ => ?_) fun x s' hx => ee n s₀ x s' hx
        have I5' := I5.pinned (stat fr5) (T.obj _ _ st5)
        refine wpAny_mono (hg.run _ s5 σ H5 x u _ I5' r5 (step x H5 y5)) (fun _ s6 ⟨σ6, H6, I6, q6⟩ => ?_) fun x s' hx => ee n s₀ x s' hx
        have gl2 : GC X S (ip ++ pinsAt fp s5.heap) A (.forLoop tg (.ref it) body [] X.env) (.ret (fun r => ((match r with | .ok f => (.pure f : Sem Flow) | .error e => .raise e).onRaise (cameBack X.env)).wrap K J gd lv) none (gd false) (lv []) c p [] :: fs) id :=
          ⟨gc.pn, fun q hq => (List.mem_append.mp hq).elim (fun z => gc.ip q z) fun z => hS q.1 (of_pinsAt z).1, gc.apart, (gl _).over, (gl _).split, (gl _).guard, rfl⟩
        have un : ∀ {ys' : List V} {σ' : St} {H' : Hp} {s' : Shared}, GI X S (ip ++ pinsAt fp s5.heap) ys' σ' H' s' → GI X S ip ys' σ' H' s' ∧ tn (i + 1) s'.heap ∧ ∀ b ∈ fp, H' b = none := fun {ys' σ' H' s'} ⟨acc', c', r', J'⟩ => by
          have pin : ∀ b ∈ fp, ∀ o, s5.heap.get? b = some o → s'.heap.get? b = some o ∧ H' b = none := fun b hb o e => by
            have := J'.pin (b, o) (List.mem_append_right _ (List.mem_cons_of_mem _ (List.mem_append_right _ (mem_pinsAt hb e))))
            exact ⟨this.1, this.2.1⟩
          refine ⟨⟨acc', c', r', Inv.unpinned (pl := pinsAt fp s5.heap) J'⟩, T.keep _ _ _ st5 fun b hb o e => (pin b hb o e).1, fun b hb => ?_⟩
          obtain ⟨o, e, _⟩ := T.obj _ _ st5 b hb
          exact (pin b hb o e).2
        refine hb.run A S (ip ++ pinsAt fp s5.heap) R n ys s₀ _ _ _ _ id id s6 σ6 H6 { D with nx := N, ct := N, bk := D.nx } gl2 hn ⟨fun n' ys' s₀' s7 f hn' hs7 => ?_, fun n' s₀' x s7 hx => ee n' s₀' x s7 hx⟩ ⟨acc, cc, ‹_›, I6⟩ q6
        have again : ∀ {σ7 : St} {H7 : Hp}, GI X S (ip ++ pinsAt fp s5.heap) ys' σ7 H7 s7 → N ys' σ7 H7 → Seg (model X.prog X.w) A R (GY X S) n' s₀' (.forLoop tg (.ref it) body [] X.env) (.pure (.again (.forLoop tg (.ref it) body [] X.env)))
            (.ret (fun r => ((match r with | .ok f => (.pure f : Sem Flow) | .error e => .raise e).onRaise (cameBack X.env)).wrap K J gd lv) none (gd false) (lv []) c p [] :: fs) s7 := fun {σ7 H7} G7 n7 => by
          obtain ⟨m', hm, w7⟩ := hN ys' σ7 H7 n7
          obtain ⟨u1, u2, u3⟩ := un G7
          exact seg_again rfl (ih m' hm (i + 1) n' ys' s₀' s7 σ7 H7 hn' w7 u2 u3 u1)
        cases f with
        | next => obtain ⟨σ7, H7, G7, n7⟩ := hs7; exact again G7 n7
        | cont => obtain ⟨σ7, H7, G7, n7⟩ := hs7; exact again G7 n7
        | brk => obtain ⟨σ7, H7, G7, q7⟩ := hs7; exact seg_leaf (.ok .next) (k.ok n' ys' s₀' s7 .next hn' ⟨σ7, H7, (un G7).1, q7⟩)
        | ret v => obtain ⟨x7, σ7, H7, G7, r7, q7⟩ := hs7; exact seg_leaf (.ok (.ret v)) (k.ok n' ys' s₀' s7 (.ret v) hn' ⟨x7, σ7, H7, (un G7).1, r7, q7⟩)
  exact loop m0 0 n ys s₀ s2 σ H2 hn w0 st2 (fun b hb => (f2 b hb).1) ⟨acc, cc, r, I2⟩
end
end TL
/-! generators over trees: their bodies, list(o.m(..)) -/
namespace TL
open PySem PySem.Spec PyProof.Rows L2 GenW
/-! ### what runs -/
def runGs (X : Cx) (st : List Stmt) : TGn := fun D ys σ H => ∀ (A : Around) (S : Addr) (ip : List (Addr × Obj)) (R : GenEnd) (n : Nat) (s₀ : Shared) (c : Code) (fs : List Frame) (K : Flow → Sem PySem.Fin) (J : Value → Sem PySem.Fin) (gd : Bool → Bool) (lv : List Value → List Value) (s : Shared),
  GC X S ip A c fs gd → n + ys.length = sizeLine → GK X S ip A R c fs K J D → GI X S ip ys σ H s → Seg (model X.prog X.w) A R (GY X S) n s₀ c ((execs st X.env).wrap K J gd lv) fs s
def runG1 (X : Cx) (st : Stmt) : TGn := fun D ys σ H => ∀ (A : Around) (S : Addr) (ip : List (Addr × Obj)) (R : GenEnd) (n : Nat) (s₀ : Shared) (c : Code) (fs : List Frame) (K : Flow → Sem PySem.Fin) (J : Value → Sem PySem.Fin) (gd : Bool → Bool) (lv : List Value → List Value) (s : Shared),
  GC X S ip A c fs gd → n + ys.length = sizeLine → GK X S ip A R c fs K J D → GI X S ip ys σ H s → Seg (model X.prog X.w) A R (GY X S) n s₀ c ((exec st X.env).wrap K J gd lv) fs s
section
variable {X : Cx} {st : Stmt} {sts rest : List Stmt} {D D' : GEnds} {ys : List V} {σ : St} {H : Hp}
theorem gss_run : GSs X sts (runGs X sts) := ⟨fun A S ip R n ys s₀ c fs K J gd lv s σ H D g hn k hI h => h A S ip R n s₀ c fs K J gd lv s g hn k hI⟩
theorem gs_run : GS X st (runG1 X st) := ⟨fun A S ip R n ys s₀ c fs K J gd lv s σ H D g hn k hI h => h A S ip R n s₀ c fs K J gd lv s g hn k hI⟩
theorem runGs.of {t : TGn} (h : GSs X sts t) (q : t D ys σ H) : runGs X sts D ys σ H := fun A S ip R n s₀ c fs K J gd lv s g hn k hI => h.run A S ip R n ys s₀ c fs K J gd lv s σ H D g hn k hI q
theorem runG1.of {t : TGn} (h : GS X st t) (q : t D ys σ H) : runG1 X st D ys σ H := fun A S ip R n s₀ c fs K J gd lv s g hn k hI => h.run A S ip R n ys s₀ c fs K J gd lv s σ H D g hn k hI q
end
/-! ### over trees -/
abbrev GN := List TL.D → Ds → AH → Prop
def GL (K : PySem.W.Frag) (H : Hp) (N : GN) : List V → St → Hp → Prop := fun ys σ H' => ∃ os δ A, Kp K H H' ∧ Rps K H' ys os ∧ Sl K H' σ δ ∧ HR K A H' ∧ N os δ A
theorem GL.from {K : PySem.W.Frag} {H H1 : Hp} {N : GN} {ys : List V} {σ : St} {H' : Hp} (k : Kp K H H1) (h : GL K H1 N ys σ H') : GL K H N ys σ H' := let ⟨os, δ, A, k', r, sl, hr, q⟩ := h; ⟨os, δ, A, k.trans k', r, sl, hr, q⟩
def WGB (X : Cx) (sts : List Stmt) (δ : Ds) (A : AH) (os : List TL.D) (N : GN) : Prop := ∀ σ H ys, Sl X.K H σ δ → HR X.K A H → Rps X.K H ys os → ∀ D : GEnds, (∀ ys' σ' H', GL X.K H N ys' σ' H' → D.nx ys' σ' H') → runGs X sts D ys σ H
def WGS (X : Cx) (st : Stmt) (δ : Ds) (A : AH) (os : List TL.D) (N : GN) : Prop := ∀ σ H ys, Sl X.K H σ δ → HR X.K A H → Rps X.K H ys os → ∀ D : GEnds, (∀ ys' σ' H', GL X.K H N ys' σ' H' → D.nx ys' σ' H') → runG1 X st D ys σ H
section
variable {X : Cx} {N : List Str} {sc : Scope} {e o : Expr} {es : List Expr} {st : Stmt} {body rest orelse : List Stmt} {δ : Ds} {A : AH} {os : List TL.D} {G : GN} {pos yp : Pos}
theorem wgb_nil (q : G os δ A) : WGB X [] δ A os G := fun σ H ys sl hr rp D k => runGs.of gss_nil (k ys σ H ⟨os, δ, A, Kp.refl H, rp, sl, hr, q⟩)
theorem wgb_cons (h : WGS X st δ A os fun os' δ' A' => WGB X rest δ' A' os' G) : WGB X (st :: rest) δ A os G := fun σ H ys sl hr rp D k =>
  runGs.of (gss_cons gs_run gss_run) (h σ H ys sl hr rp _ fun ys' σ' H' ⟨os', δ', A', k', rp', sl', hr', w⟩ => w σ' H' ys' sl' hr' rp' D fun y2 σ2 H2 g => k y2 σ2 H2 (g.from k'))
theorem wgs_if {test : Expr} (h : WPT X test δ A fun b A1 => if b = true then WGB X body δ A1 os G else WGB X orelse δ A1 os G) : WGS X (.If test body orelse pos) δ A os G := fun σ H ys sl hr rp D k =>
  runG1.of (gs_if pt_run gss_run gss_run) (runT.mono (h σ H sl hr) fun b H1 ⟨A1, k1, hr1, q⟩ => by
    cases b with
    | true =>
      rw [if_pos rfl] at q ⊢
      exact q σ H1 ys (sl.keep k1) hr1 (Rps.keep rp k1) D fun y2 σ2 H2 g => k y2 σ2 H2 (g.from k1)
    | false =>
      rw [if_neg Bool.false_ne_true] at q ⊢
      exact q σ H1 ys (sl.keep k1) hr1 (Rps.keep rp k1) D fun y2 σ2 H2 g => k y2 σ2 H2 (g.from k1))
theorem wgs_yield (h : WPE X e δ A fun d A1 => G (os ++ [d]) δ A1) (hz : os.length < sizeLine) (hco : X.env.scope.isCoroutine = false := by rfl) (hi : interactive X.env = false := by rfl) : WGS X (.Expr (.Yield (some e) yp) pos) δ A os G := fun σ H ys sl hr rp D k =>
  runG1.of (gs_yield pe_run hco hi) ⟨by rw [Paired.length rp]; exact hz, runE.mono (h σ H sl hr) fun v H1 ⟨d, A1, k1, rv, hr1, q⟩ => k _ σ H1 ⟨os ++ [d], δ, A1, k1, Paired.app (Rps.keep rp k1) (.cons rv .nil), sl.keep k1, hr1, q⟩⟩
theorem SC.gfor {tg iter : Expr} (B : SC X N sc) (h : WPI X tg iter δ A fun n f Gd A1 => ∃ W : Nat → List TL.D → Ds → AH → Prop, W 0 os δ A1 ∧ (∀ i os' δ' A', i ≤ n → W i os' δ' A' → Gd A') ∧
      (∀ i os' δ' A', i < n → W i os' δ' A' → WPG X tg (f i) δ' A' fun δ2 A2 => WGB X body δ2 A2 os' fun o3 δ3 A3 => ∃ A4, Vw A3 A4 ∧ W (i + 1) o3 δ3 A4) ∧ (∀ os' δ' A', W n os' δ' A' → G os' δ' A'))
    (hs : ∀ x, foldedSetIterable iter X.env x = pure x := by intro _; rfl) : WGS X (.For tg iter body [] pos) δ A os G := fun σ H ys sl hr rp D k => by
  refine runG1.of (gs_for B.po B.calm pi_run pg_run gss_run hs) (h σ H sl hr _ fun J H1 n f Gd A1 YG k1 hr1 wk hG ⟨W, h0, hg, hstep, hend⟩ => ?_)
  let Pv : Nat → List V → St → Hp → Prop := fun i ys' σ' H' => ∃ os' δ' A', Kp X.K H1 H' ∧ Rps X.K H' ys' os' ∧ Sl X.K H' σ' δ' ∧ HR X.K A' H' ∧ W i os' δ' A'
  refine ⟨fun i m ys' σ' H' => m = n - i ∧ i ≤ n ∧ Pv i ys' σ' H', ⟨n, by simp, Nat.zero_le _, os, δ, A1, Kp.refl H1, Rps.keep rp k1, sl.keep k1, hr1, h0⟩, ?_⟩
  rintro i m ys' σ' H' ⟨rfl, hi, os', δ', A', k', rp', sl', hr', w⟩
  have q := hG A' H' k' hr' (hg i os' δ' A' hi w)
  by_cases hlt : i < n
  · refine .inr ⟨wk.goes i H' hlt q, Pv (i + 1), fun y2 σ2 H2 p2 => ⟨n - (i + 1), by omega, rfl, hlt, p2⟩, fun x H2 y => ?_⟩
    obtain ⟨ky, ay, rx⟩ := wk.yields i H' x H2 hlt q y
    have hr2 := ay A' hr'
    refine fun pins s' u I rv => thn (hstep i os' δ' A' hlt w x σ' H2 rx (sl'.keep ky) hr2 pins s' u I rv) fun _ s2 ⟨σ3, H3, I3, δ3, A3, k3, sl3, hr3, q3⟩ => ⟨σ3, H3, I3, ?_⟩
    have kk : Kp X.K H1 H3 := (k'.trans ky).trans k3
    exact q3 σ3 H3 ys' sl3 hr3 (Rps.keep rp' (ky.trans k3)) _ fun y4 σ4 H4 ⟨o4, δ4, A4, k4, rp4, sl4, hr4, A5, v5, w5⟩ => ⟨o4, δ4, A5, kk.trans k4, rp4, sl4, v5 _ _ hr4, w5⟩
  · have e : i = n := by omega
    subst e
    exact .inl ⟨wk.stops H' q, k ys' σ' H' ⟨os', δ', A', k1.trans k', rp', sl', hr', hend os' δ' A' w⟩⟩
end
/-! ### defs -/
abbrev GTSp := List TL.D → AH → (List TL.D → AH → Prop) → Prop
def liftG (K : PySem.W.Frag) (tp : GTSp) : SpG := fun vs H Q _ => ∃ ds A QT, Rps K H vs ds ∧ HR K A H ∧ tp ds A QT ∧ ∀ ys H', (∃ os A', Kp K H H' ∧ Rps K H' ys os ∧ HR K A' H' ∧ QT os A') → Q ys H'
def GFnT (P : Program) (w : World) (K : PySem.W.Frag) (mg : Str → Option Value) (base : Heap) (k : Nat) (f : Addr) (ps : List Str) (tp : GTSp) : Prop := ∃ fd, GFn P w K mg base k f fd ps (liftG K tp) ∧ Binds K fd ps []
abbrev GBodyT (P : Program) (w : World) (K : PySem.W.Frag) (mg : Str → Option Value) (base : Heap) (N : List Str) (scope : Scope) (k : Nat) (body : List Stmt) (tp : GTSp) : Prop :=
  ∀ (X : Cx), Bd P w K mg base N scope k X → ∀ (ds : List TL.D) (A : AH) (Q : List TL.D → AH → Prop), tp ds A Q → WGB X body (startD N ds) A [] fun os _ A' => ∃ A2, Vw A' A2 ∧ Q os A2
section
variable {P : Program} {w : World} {K : PySem.W.Frag} {mg : Str → Option Value} {base : Heap} {name qual : Str} {params : Arguments} {body : List Stmt} {scope : Scope} {f : Addr} {fd : FuncData} {N ps : List Str} {k : Nat} {tp : GTSp}
theorem gfn_T (Fd : FunD K name qual params body scope [] [] f fd) (S : GScope N ps scope) (hb : Binds K fd ps []) (len : ∀ ds A Q, tp ds A Q → ds.length = ps.length) (hbody : GBodyT P w K mg base N scope k body tp) : GFnT P w K mg base (k + 1) f ps tp := by
  refine ⟨fd, ?_, hb⟩
  obtain ⟨oc, od, dV, kV, doc, pm, an, cdv, ct, osl, rfl, lk, hcd, _, _⟩ := Fd.ex
  refine gfn_of lk hcd S (fun vs H Q E ⟨ds, A, QT, rp, _, ht, _⟩ => (Paired.length rp).trans (len ds A QT ht)) fun A0 outer s H vs Q E pn hr ⟨ds, A, QT, rp, hR, ht, hQ⟩ => ?_
  have bd : Bd P w K mg base N scope k (gcxOf P w K mg base N qual scope f cdv A0 outer s H E pn) := ⟨rfl, rfl, rfl, rfl, rfl, ⟨⟨rfl, S.nd, rfl, fun _ h => h, fun _ h => h⟩, rfl, fun _ => rfl, owns_gcx⟩, hr, rfl, rfl⟩
  refine ⟨runGs (gcxOf P w K mg base N qual scope f cdv A0 outer s H E pn) body, gss_run, ?_⟩
  exact hbody _ bd ds A QT ht (L2.start N vs) H [] (sl_start rp) hR .nil _ fun ys σ' H' ⟨os, δ', A', k', rp', _, hr', A2, vw, q⟩ => hQ ys H' ⟨os, A2, k', rp', vw _ _ hr', q⟩
end
section
variable {X : Cx} {δ : Ds} {A : AH} {Q : TQ} {N ps : List Str} {sc : Scope} {o e : Expr} {es : List Expr} {C f : Addr} {k : Nat} {tp : GTSp} {p pos pos' apos : Pos} {m : Str}
/-- list(o.m(e, ..)), m a generator -/
theorem wpe_listG {pl : Sem Bool} (B : BC X N sc) (cl : Cls X.K C) (hm : Meth X.K C m f) (F : GFnT X.prog X.w X.K X.mg X.base k f ps tp) (hr : Room (k + 3) X.A) (hg : sc.names.lookup ("list" : Str) = some .globalImplicit) (hmg : X.mg "list" = none)
    (h : WPE X o δ A fun x A1 => ∃ p, x = .ref p ∧ InsT X.K A1 p C m ∧ WPA X (e :: es) δ A1 fun ds A2 => tp (.ref p :: ds) A2 fun os A3 => ∀ t, A3 t = none → Q (.ref t) (updA A3 t (.prim (.lst os))))
    (he : starEach [Expr.Call (.Attribute o m apos) (e :: es) [] pos'] X.env = (false, eval (.Call (.Attribute o m apos) (e :: es) [] pos') X.env) :: starEach [] X.env := by rfl)
    (hst : starEach (e :: es) X.env = (false, eval e X.env) :: starEach es X.env := by rfl) (hpl : (backTo pos' (starEach es X.env)).any (·.1) = false := by rfl)
    (ht : eval (.Call (.Attribute o m apos) (e :: es) [] pos') X.env = (do
      let ov ← eval o X.env
      standAt apos.atName
      let (f, first) ← holding [ov] (getMethod ov m pl)
      callWith pos' f first (backTo pos' (starEach (e :: es) X.env)) (backToKw pos' (keywordEach [] X.env))) := by rfl) :
    WPE X (.Call (.Name "list" p) [.Call (.Attribute o m apos) (e :: es) [] pos'] [] pos) δ A Q := fun σ H sl r => by
  obtain ⟨fd, GF, hb⟩ := F
  have PG := pgen_meth (E := fun _ _ _ => False) (pl := pl) (pe_run (e := o)) cl hm GF (hr.mono (by omega)) hb (dvs := []) .nil (pa_run (es := e :: es)) hst hpl ht
  refine runE.of (pe_listG PG (fun pins σ' H' s e' s' I h => ?_) (fun cls d H' h => h.elim) hr (B.gl hg) hmg bt_list (he := he)) ?_
  · obtain ⟨a, Bq, H2, cls, d, _, _, _, _, _, _, _, z⟩ := h
    exact z.elim
  · refine runE.mono (h σ H sl r) fun v H1 ⟨d, A1, k1, rv, hr1, pp, e1, it, q⟩ => ?_
    subst e1
    cases rv
    obtain ⟨dx, gs, ea, l⟩ := it H1 hr1
    refine ⟨pp, dx, gs, rfl, ea, l, fun pos2 pins s I => thn (q σ H1 (sl.keep k1) hr1 pos2 pins s I) fun us s2 ⟨vs, H2, I2, rv2, ds, A2, k2, rps, hr2, q2⟩ => ⟨vs, H2, I2, rv2, ?_⟩⟩
    refine ⟨.ref pp :: ds, A2, _, by rw [List.append_nil]; exact .cons .ref rps, hr2, q2, fun ys H3 ⟨os, A3, k3, rp3, hr3, qq⟩ => fun t ht3 => ?_⟩
    have ex := ex_upd (o := .lst ys) ht3
    have kk : Kp X.K H3 (upd H3 t (.lst ys)) := kp_ex ex
    exact ⟨.ref t, _, ((k1.trans k2).trans k3).trans kk, .ref, hr3.new (o := .lst os) ht3 kk ex ⟨_, upd_same, Rps.keep rp3 kk⟩, qq t (hr3.free ht3)⟩
end
end TL
/-! str(o) by the class's own __str__ -/
namespace TL
open PySem PySem.Spec PyProof.Rows L2
section
variable {X : Cx} {A : AH} {Q : TQ} {C f p : Addr} {k : Nat} {tp : TSp}
theorem caw_strO (hm : Meth X.K C "__str__" f) (F : FnT X.prog X.w X.K X.mg X.base k f tp) (hr : Room (k + 2) X.A) (it : InsC X.K A p C)
    (h : tp [.ref p] A (fun d A2 => ∃ z, d = .str z ∧ Q (.str z) A2) NoX) : CaW X (.type "str") [.ref p] A Q := by
  have hu : X.A.in1.in1.units < cLine := by
    have := (sub_in2 hr).room.units
    omega
  refine ⟨fun vs H R => vs = [.ref p] ∧ HR X.K A H ∧ ∀ v H' d A', Kp X.K H H' → Rp X.K H' v d → HR X.K A' H' → Q d A' → R v H', ?_, fun H vs hR rps R hq => ?_⟩
  · intro pins s σ H xs us R I rv ⟨e, hR, hq⟩
    subst e
    obtain rfl := Vals.ref1 rv
    obtain ⟨ox, od, J⟩ := ins_at I it hR
    refine PySem.W.kso_call hu I.kIn J hm.at_ hm.fn (thn (run_TA (us := [.ref p]) (vs := [.ref p]) F (sub_in2 hr) (fun e s' q => (noX q).elim) I (.cons rfl .nil) (rps_one .ref) hR h) fun u' s2 q2 => ?_)
    obtain ⟨v, H2, I2, r2, d, A2, k2, rd, hr2, n, ed, q3⟩ := q2
    subst ed
    cases rd
    obtain ⟨t, rfl⟩ := r2
    exact ⟨.str n, H2, I2, ⟨t, rfl⟩, hq _ H2 _ A2 k2 .str hr2 q3⟩
  · obtain ⟨v, rfl, hv⟩ := rps1 rps
    cases hv
    exact ⟨rfl, hR, hq⟩
end
/-- the truth of a list -/
theorem et_lst {X : Cx} {e : Expr} {δ : Ds} {A : AH} {p : Addr} {xs : List TL.D} (h : Ev X e δ A (.ref p)) (hp : A p = some (.prim (.lst xs))) (he : ∀ whole, isTrue e X.env whole = (do let v ← whole; standAt e.pos; holding [v] (truthy v)) := by intro _; rfl) : EvT X e δ A (!xs.isEmpty) := fun A1 k Q q σ H sl r =>
  runT.of (pt_truth pe_run he) (runE.mono (h A1 k (fun d A2 => d = .ref p ∧ A2 = A1) ⟨rfl, rfl⟩ σ H sl r) fun v H1 ⟨d, A2, k1, rp, hr, e1, e2⟩ => by
    subst e1 e2
    cases rp
    obtain ⟨ws, h1, h2⟩ := hr.at_ (k _ _ hp)
    have e : xs.isEmpty = ws.isEmpty := by cases h2 <;> rfl
    exact ⟨!xs.isEmpty, .inl ⟨ws, .of h1, by rw [e]⟩, A2, k1, hr, q⟩)
end TL
/-! a list unpacked into names -/
namespace TL
open PySem PySem.Spec PyProof.Rows L2
theorem BC.tl {X : Cx} {N : List Str} {sc : Scope} {δ : Ds} {A : AH} {pos : Pos} {ts : List Expr} {ds : List TL.D} {k : Nat} {l : Addr} {M : Ds → AH → Prop} (B : BC X N sc) (hl : RdL X.K A l ds) (h : WPGs X ts ds δ A M) (hn : (assignEach ts X.env).length = ds.length := by rfl) (hst : (assignEach ts X.env).findIdx? (·.1) = none := by rfl) : WPG X (.Tuple ts k pos) (.ref l) δ A M := fun v σ H rp sl r pins s' u I rv => by
  obtain ⟨t, h1, h2⟩ := h
  cases rp
  obtain ⟨vs, hq, hv⟩ := hl.sq r
  exact (pg_lst B.calm h1 hn hst).run pins s' σ H _ u _ I rv ⟨l, vs, rfl, hq, Paired.length hv, h2 vs σ H hv sl r _ fun _ _ q => q⟩
section
variable {X : Cx} {a b c : Expr} {δ : Ds} {A : AH} {x y z : TL.D} {k l : Bool} {op op' : CmpOp} {pos : Pos}
/-- a op b op' c, as a test -/
theorem et_chain (ha : Ev X a δ A x) (hb : Ev X b δ A y) (hc : Ev X c δ A z) (ho : OpV X (compareOp op) x y A (.bl k)) (ho' : k = true → OpV X (compareOp op') y z A (.bl l)) (hm : lastMarks [op, op'] [b, c] = false := by with_unfolding_all rfl) :
    EvT X (.Compare a [op, op'] [b, c] pos) δ A (k && l) := fun A1 kk Q q σ H s r => by
  refine runT.of (pt_chain opr_w opr_w pe_run pe_run pe_run hm) (runE.mono (wpe_two (R := fun dx dy A2 => dx = x ∧ dy = y ∧ A2 = A1) (ha A1 kk _ (hb A1 kk _ ⟨rfl, rfl, rfl⟩)) s r) fun vx H1 h => runE.mono h fun vy H2 ⟨x', y', A2, k2, rx, ry, hr, e1, e2, e3⟩ => ?_)
  subst e1 e2 e3
  refine ⟨x', y', A2, fun d A' => d = .bl k ∧ A' = A2, hr, rx, ry, ho A2 kk _ ⟨rfl, rfl⟩, fun v H' d A' k3 rp hr' ⟨ed, eA⟩ => ?_⟩
  subst ed eA
  cases rp
  refine ⟨k, rfl, ?_⟩
  cases k with
  | false => exact ⟨false, rfl, _, k2.trans k3, hr', q⟩
  | true =>
    rw [if_pos rfl]
    refine runE.mono (hc _ kk (fun d A5 => d = z ∧ A5 = A') ⟨rfl, rfl⟩ σ H' (s.keep (k2.trans k3)) hr') fun vz H4 ⟨d4, A4, k4, r4, hr4, e4, e5⟩ => ?_
    obtain ⟨rfl, rfl⟩ := (⟨e4, e5⟩ : d4 = z ∧ A4 = A')
    exact ⟨_, _, _, fun d A5 => d = .bl l ∧ A5 = A4, hr4, ry.keep (k3.trans k4), r4, ho' rfl _ kk _ ⟨rfl, rfl⟩, fun v H5 d A5 k5 rp hr5 ⟨ed, eA⟩ => by
      subst ed eA
      cases rp
      exact ⟨l, rfl, _, ((k2.trans k3).trans k4).trans k5, hr5, q⟩⟩
end
end TL
/-! own iterators over the keys of a dict of the instance; list(o) -/
namespace TL
open PySem PySem.Spec PyProof.Rows
open L2 hiding XE Takes CX MkP PMk ps_raise mk_of ps_try_as ps_try_many pmk_own passAt takes_of passes_call XE.new XE.of_call XE.leave Takes.imp Sky.land
open L2N hiding St
variable {X : Cx} {N : List Str} {sc : Scope} {e a b c o i_ v_ : Expr} {es : List Expr} {st : Stmt} {rest : List Stmt} {δ : Ds} {A : AH} {Q : TQ} {D : TEnds} {d x y z : TL.D} {pos apos p_ : Pos}
variable {k : Nat} {f C p l it : Addr} {tp : TSp} {ET : TXQ} {pins : List (Addr × Obj)} {σ : St} {H : Hp} {s : Shared} {od : Obj} {us : List (Key × V)} {kvs : List (Key × TL.D)} {fld : Str}
abbrev kiObj (d : Addr) (i n ep : Nat) : Obj := { cls := .type "dict_keyiterator", data := .fields #[.ref d, .int (i : Nat) 0, .int (n : Nat) 0, .int (ep : Nat) 0] }
def KiO (d it : Addr) (i n ep : Nat) : HO := .ext fun h => h.get? it = some (kiObj d i n ep)
theorem kiO_ok {P : Program} {w : World} {H : Hp} {h : Heap} {i n ep : Nat} (e : h.get? it = some (kiObj l i n ep)) : ObjOk P w H h it (KiO l it i n ep) := ⟨e, ⟨_, e⟩, fun h1 h2 q k => k _ q⟩
theorem call_iterK {prog : Program} {w : World} {A : Around} {E : Value → Shared → Prop} {s : Shared} {d : Addr} {o : Obj} {es : Array DictEntry} {ep : Nat} {Q : Value → Shared → Prop} (hd : (d == sysModules) = false) (ho : s.heap.get? d = some o) (hc : o.ExactDict) (hdat : o.data = .dict es ep)
    (h : Q (.ref s.heap.objs.size) { s with heap := s.heap.push (kiObj d 0 es.size ep) }) : wpAny (model prog w) A (call (.builtin "iter") [.ref d]) Q E s := by
  refine Calls.call_function_entry (by decide +kernel) (by decide +kernel) PySem.W.kdk_entry_iter (PySem.W.kdk_args_iter _) ?_
  unfold Builtin.«iter»
  refine wpAny_bind (m := someArgs "iter" 1 2 _) (wpAny_of_eq (a := [Value.ref d]) (by first | rfl | kernel_rfl!) ?_)
  show wpAny _ _ (pyIter (.ref d) >>= _) _ _ _
  refine wpAny_bind (iter_keys hd ho hc hdat ?_)
  exact wpAny_pure ⟨_, rfl, h⟩
/-! ### __iter__: return iter(self.fld), fld a dict -/
def ItFnK (P : Program) (w : World) (K : PySem.W.Frag) (mg : Str → Option Value) (base : Heap) (k : Nat) (f C : Addr) (fld : Str) : Prop :=
  ∀ (A : Around) (outer : List Env) (s : Shared) (H : Hp) (a dx l : Addr) (gs : List (Str × V)) (od : Obj) (us : List (Key × V)), Room k A → Env0 P w K mg base A outer s H → H a = some (.ins C dx gs) → gs.lookup fld = some (.ref l) → H l = some (.frz od (.dK us)) →
    codeAny (model P w) A (.call (.ref f) ⟨[.ref a], []⟩) (CR (L2N.CX P w) outer P w H s (fun v H' => ∃ it es ep, v = .ref it ∧ H it = none ∧ s.heap.objs.size ≤ it ∧ od.data = .dict es ep ∧ H' = upd H it (KiO l it 0 us.length ep)) fun _ _ _ => False) s
theorem ItFnK.mono {P : Program} {w : World} {K : PySem.W.Frag} {mg : Str → Option Value} {base : Heap} {j : Nat} {fld : Str} (F : ItFnK P w K mg base j f C fld) (h : j ≤ k) : ItFnK P w K mg base k f C fld :=
  fun A outer s H a dx l gs od us hr => F A outer s H a dx l gs od us (hr.mono h)
def rItK (X : Cx) : List V → Hp → VK → Prop := fun xs H Q => ∃ (l : Addr) (od : Obj) (us : List (Key × V)), xs = [.ref l] ∧ H l = some (.frz od (.dK us)) ∧ ∀ it es ep, H it = none → X.s_0.heap.objs.size ≤ it → od.data = .dict es ep → Q (.ref it) (upd H it (KiO l it 0 us.length ep))
theorem cr_itK : CallR X (.builtin "iter") (rItK X) := fun pins s σ H xs us0 Q I r ⟨l, od, us, e, hq, q⟩ => by
  subst e
  obtain rfl := Vals.ref1 r
  obtain ⟨hs, hgd, hx, es, ep, vs, hdt, hsz, kv, hm⟩ := I.frzK hq
  refine call_iterK hs hgd hx hdt ⟨.ref s.heap.objs.size, _, I.laid (o := KiO l s.heap.objs.size 0 us.length ep) (t' := s.toks) (fun b u e => Heap.get?_push_of_some _ e) (Nat.le_refl _) (kiO_ok ?_), rfl, q _ es ep (I.hok.fresh (Nat.le_refl _)) I.sz hdt⟩
  rw [← hsz]
  exact Heap.get?_push_size _ rfl
section
variable {P : Program} {w : World} {K : PySem.W.Frag} {mg : Str → Option Value} {base : Heap} {name qual fld : Str} {params : Arguments} {body : List Stmt} {scope : Scope} {fd : FuncData} {p1 p2 p3 p4 p5 : Pos}
theorem fn_itK (Fd : FunD K name qual params body scope [] [] f fd) (S : FnScope N ["self"] scope) (hb : Binds K fd ["self"] []) (hbody : body = [.Return (some (.Call (.Name "iter" p1) [.Attribute (.Name "self" p2) fld p3] [] p4)) p5])
    (hN : N[0]? = some ("self" : Str)) (hg : scope.names.lookup ("iter" : Str) = some .globalImplicit) (hm : mg "iter" = none) (c : Cls K C) (n : NoAttr K C fld) : ItFnK P w K mg base (k + 1) f C fld := by
  obtain ⟨oc, od0, dV, kV, doc, pm, an, cdv, ct, osl, rfl, lk, hcd, _, _⟩ := Fd.ex
  intro A outer s H q dx l gs od us hr e0 ha hl hz
  have KX : K.In s.heap := e0.mod.kin.keeps fun b o e => (e0.bs b o e).1
  have lim : s.heap.NoLimit := e0.mod.nolimit.keeps fun b o e => (e0.bs b o e).1
  have kinds : ∀ y ∈ (["self"] : List Str).zip [Value.ref q], scope.names.lookup y.1 = some .local ∨ (scope.names.lookup y.1 = some .cell ∧ ((cellsFrom (s.heap.objs.size + 1) scope.names []).lookup y.1).isSome = true) := fun y hy => by
    rcases S.par y.1 (List.of_mem_zip hy).1 with z | z
    · exact .inl z
    · exact .inr ⟨z, PySem.W.cellsFrom_some _ _ _ (.inl z)⟩
  have bd := hb s [.ref q] KX rfl
  refine codeAny_call_function hr.depth (KX _ _ lk) rfl S.co S.gen rfl (PySem.W.codeRec_of KX hcd) (bd _ _ _ _ ?_)
  refine wpAny_newFunctionEnv_cells S.kind kinds fun env he s1 xx => ?_
  subst he
  refine ⟨lim.keeps xx.toInCall.keep, codeAny_func ?_⟩
  have r1 : Vals [V.ref q] [Value.ref q] := .cons rfl .nil
  have I : Inv (cxOf (L2N.CX P w) P w K mg base N qual scope f cdv A outer s H fun _ _ _ => False) [] (L2.start N [.ref q]) H s1 := inv_start S hr.hd e0 rfl r1 xx
  subst hbody
  have vis : Vis scope "self" := (S.par "self" (List.Mem.head _)).elim (fun z => .inl z) fun z => .inr (.inl z)
  have gl : Gl (cxOf (L2N.CX P w) P w K mg base N qual scope f cdv A outer s H fun _ _ _ => False) "iter" := hg
  have pv : PE (cxOf (L2N.CX P w) P w K mg base N qual scope f cdv A outer s H fun _ _ _ => False) (.Name "self" p2) (tVar 0) := pe_var hN vis
  have pf : PE (cxOf (L2N.CX P w) P w K mg base N qual scope f cdv A outer s H fun _ _ _ => False) (.Attribute (.Name "self" p2) fld p3) (tFld K (tVar 0) fld) := pe_fld pv rfl
  have pa : PA (cxOf (L2N.CX P w) P w K mg base N qual scope f cdv A outer s H fun _ _ _ => False) [.Attribute (.Name "self" p2) fld p3] (tCons (tFld K (tVar 0) fld) tNil) := pa_cons pf pa_nil
  have pc : PE (cxOf (L2N.CX P w) P w K mg base N qual scope f cdv A outer s H fun _ _ _ => False) (.Call (.Name "iter" p1) [.Attribute (.Name "self" p2) fld p3] [] p4) _ := pe_callB cr_itK gl hm (by rfl) pa
  have body := pss_one (ps_ret (pos := p5) pc)
  refine wpAny_mono (body.run [] s1 (L2.start N [.ref q]) H { nx := fun _ _ => False, rt := fun v H' => ∃ it es ep, v = .ref it ∧ H it = none ∧ s.heap.objs.size ≤ it ∧ od.data = .dict es ep ∧ H' = upd H it (KiO l it 0 us.length ep) } I ?_) (fun fl s' hs => ?_) fun e s' hs => hs
  · exact ⟨.ref q, rfl, q, C, dx, gs, .ref l, rfl, ha, c, n, hl, l, od, us, rfl, hz, fun it es ep hn hs hd => ⟨it, es, ep, rfl, hn, hs, hd, rfl⟩⟩
  · cases fl with
    | ret u =>
      obtain ⟨v, σ', H', J, rv, q⟩ := hs
      exact ⟨v, H', J.os, J.bare, J.base, J.hok, rv, q⟩
    | next => obtain ⟨_, _, _, q⟩ := hs; exact q.elim
    | brk => obtain ⟨_, _, _, q⟩ := hs; exact q.elim
    | cont => obtain ⟨_, _, _, q⟩ := hs; exact q.elim
end
theorem run_itK {A1 : Around} {dx : Addr} {gs : List (Str × V)} {Q : Value → Shared → Prop} (F : ItFnK X.prog X.w X.K X.mg X.base k f C fld) (sb : L2.Sub X k A1) (I : Inv X pins σ H s) (ha : H p = some (.ins C dx gs)) (hl : gs.lookup fld = some (.ref l)) (hz : H l = some (.frz od (.dK us)))
    (q : ∀ it s' es ep, Inv X pins σ H s' → od.data = .dict es ep → s'.heap.IsKeyIter it l 0 us.length ep → FpOk X pins H it → Q (.ref it) s') : wpAny (model X.prog X.w) A1 (call (.ref f) [.ref p]) Q X.xe s := by
  have e1 := I.env0
  have e0 : Env0 X.prog X.w X.K X.mg X.base A1 X.stack s H := ⟨sb.fr.trans e1.frames, e1.mod, e1.bs, e1.bsz, e1.funs, e1.frf, e1.hok, e1.bare⟩
  refine wpAny_call (codeAny_mono (F A1 X.stack s H p dx l gs od us sb.room e0 ha hl hz) fun r s' hq => ?_)
  cases r with
  | error e =>
    obtain ⟨_, _, _, _, _, _, _, _, _, _, _, _, z⟩ := hq
    exact z.elim
  | ok fl =>
    cases fl with
    | ret u =>
      obtain ⟨v, H', os, bare, un, hok, rv, it, es, ep, ev, hn, hs, hdat, eH⟩ := hq
      subst ev eH
      obtain rfl := vref rv
      obtain ⟨hh, g, dd, t, os'⟩ := s'
      obtain rfl : os' = s.os := os
      have un' : Un (frs X.stack) [] H H s.heap hh := ⟨un.keep, un.slot, fun _ _ _ n _ => n, un.there, fun _ _ e => e, fun _ _ _ e => e, fun b ps e => ⟨#[], by rw [e]; simp⟩⟩
      have own : ∀ b a, upd H it (KiO l it 0 us.length ep) b = some (.own a) → H b = some (.own a) := fun b a e => by
        by_cases z : b = it
        · subst z; rw [upd_same] at e; cases e
        · rw [upd_ne z] at e; exact e
      have tups : ∀ b xs, upd H it (KiO l it 0 us.length ep) b = some (.tup xs) → H b = some (.tup xs) := fun b a e => by
        by_cases z : b = it
        · subst z; rw [upd_same] at e; cases e
        · rw [upd_ne z] at e; exact e
      have hok' : HOk X.prog X.w H hh := fun b u e => (hok b u (by rw [upd_ne (ne_of_none e hn)]; exact e)).stay (fun _ _ _ q => q) (fun b => own b _) tups
      have hit : hh.get? it = some (kiObj l 0 us.length ep) := (hok it _ upd_same).1
      exact q it _ es ep (I.call (h' := hh) (g' := g) (d' := dd) (t' := t) (ch := []) un' hok' bare (fun b z => absurd z (by simp))) hdat ⟨_, hit, rfl, rfl⟩ (I.fpOk hs hn)
    | next => exact False.elim hq
    | brk => exact False.elim hq
    | cont => exact False.elim hq
theorem walk_dk {K : PySem.W.Frag} {H1 : Hp} (kv : KVr K H1 us kvs) : Walk (Itk p od us) kvs.length (fun H' => H' p = some (.frz od (.dK us))) (TY K fun i => (kvs.map fun q => kD q.1).getD i .non) := by
  have hl : us.length = kvs.length := Paired.length kv
  refine ⟨fun i H' hi g => ⟨g, by rw [hl]; exact hi⟩, fun H' g => ⟨g, Nat.le_of_eq hl⟩, fun i H' x H'' hi g ⟨e1, k, v, e2, e3⟩ => ?_⟩
  subst e1 e3
  refine ⟨Kp.refl _, fun _ r => r, ?_⟩
  obtain ⟨y, hy, ek, _⟩ := Paired.get0 kv e2
  have : (kvs.map fun q => kD q.1).getD i .non = kD k := getD_of (by rw [List.getElem?_map, hy]; show some (kD y.1) = _; rw [← ek])
  show Rp K H'' (kV k) ((kvs.map fun q => kD q.1).getD i .non)
  rw [this]
  cases k with
  | inl j => exact .int
  | inr s => exact .str
/-- an own object is walked, its dict is locked -/
theorem wpi_ownK {tg : Expr} {R : RW} (hm : Meth X.K C "__iter__" f) (F : ItFnK X.prog X.w X.K X.mg X.base k f C fld) (hr : Room k X.A)
    (h : WPE X e δ A fun d A1 => ∃ p l od us kvs, d = .ref p ∧ FldO X.K A1 p C fld l ∧ A1 l = some (.prim (.roK od us kvs)) ∧ R kvs.length (fun i => (kvs.map fun q => kD q.1).getD i .non) (fun A' => A' l = some (.prim (.roK od us kvs))) A1) : WPI X tg e δ A R := fun σ H sl r R0 kk pins s I => by
  refine thn (h σ H sl r pins s I) fun u s1 ⟨v, H1, I1, rv, d, A1, k1, rp, hr1, p, l, od, us, kvs, e1, hf, ho, q⟩ => ?_
  subst e1
  cases rp
  obtain rfl := vref rv
  obtain ⟨dx, gs, e2, e3⟩ := hf H1 hr1
  obtain ⟨e4, kv⟩ := hr1.at_ ho
  obtain ⟨mA, J, _⟩ := ins_get I1.hok e2
  obtain ⟨od2, J, _⟩ := J.look
  obtain ⟨m, hF⟩ := I1.fr
  refine PySem.W.owit_iter hF I1.ok.mod.kin J hm.at_ hm.fn (run_itK F (sub_in0 hr) I1 e2 e3 e4 fun it s' es ep I' hdat hit hfp => ?_)
  unfold PySem.W.OwitIt
  refine wpAny_specialOf hit.typeIs PySem.F.slot_dict_keyiterator_next.lookup ?_
  refine ⟨it, [it], fun i h => h.IsKeyIter it l i us.length ep, Itk l od us, H1, rfl, I', turn_keys it hdat, hit, fun b hb => ?_, kk _ H1 kvs.length _ _ A1 (fun H' => H' l = some (.frz od (.dK us))) k1 hr1 (walk_dk kv) (fun A' H' _ hr' (hp' : A' l = some (.prim (.roK od us kvs))) => (hr'.at_ hp').1) q⟩
  obtain rfl : b = it := by simpa using hb
  exact hfp
theorem evi_ownK {tg : Expr} (hm : Meth X.K C "__iter__" f) (F : ItFnK X.prog X.w X.K X.mg X.base k f C fld) (hr : Room k X.A) (h : Ev X e δ A (.ref p)) (hf : FldO X.K A p C fld l) (hp : A l = some (.prim (.roK od us kvs))) : EvI X tg e δ A (kvs.map fun q => kD q.1) := fun A1 k R hR =>
  wpi_ownK hm F hr ((h.sub k).wp ⟨p, l, od, us, kvs, rfl, hf.sub k, k _ _ hp, by
    have t := hR (fun A' => A' l = some (.prim (.roK od us kvs))) (fun i => (kvs.map fun q => kD q.1).getD i .non) (fun A2 k2 => k2 _ _ (k _ _ hp)) fun i hi => getD_some hi
    rw [List.length_map] at t
    exact t⟩)
theorem ext_loopK {A1 : Around} {q : Addr} {es : Array DictEntry} {ep : Nat} {Rs : Result → Shared → Prop} (hd : A1.in1.handled = none) (hz : us.length ≤ sizeLine) (hlq : l ≠ q) (hiq : it ≠ q) (hdat : od.data = .dict es ep) :
    ∀ (n i : Nat) (H : Hp) (s : Shared), us.length - i = n → i ≤ us.length → Inv X pins σ H s → s.heap.IsKeyIter it l i us.length ep → FpOk X pins H it → H l = some (.frz od (.dK us)) → H q = some (.lst ((us.map fun p => kV p.1).take i)) →
      (∀ s', Inv X pins σ (upd H q (.lst (us.map fun p => kV p.1))) s' → Rs (.ok (.ret .none)) s') → codeAny (model X.prog X.w) A1 (.builtin "list.extend.loop" ⟨[.ref q, .ref it, .none], []⟩) Rs s
  | 0, i, H, s, hn, hi, I, hit, fp, hl, hq, done => by
    have ei : i = us.length := by omega
    subst ei
    obtain ⟨f0, f1, f2, f3, f4, f5⟩ := fp
    obtain ⟨hs, hgd, hx, es', ep', vs, hdt, hsz, kv, hm⟩ := I.frzK hl
    obtain ⟨rfl, rfl⟩ := dict_ep hdat hdt
    refine codeAny_builtin PySem.F.entry_extend_loop ?_
    rw [Around.under_plainId PySem.F.plain_extend_loop _]
    show wpAny _ A1.in1 (pyNext (.ref it) >>= _) _ _ s
    refine wpAny_bind (next_key_end hd hit hgd hdt hsz (Nat.le_refl _) fun h' eb => wpAny_pure (done _ ?_))
    have I2 : Inv X pins σ H { s with heap := h' } := I.turned (t' := s.toks) (fun b o hb z => eb b o hb z) f0 f1 f3 f4 f5
    have eH : upd H q (.lst (us.map fun p => kV p.1)) = H := by
      funext b
      by_cases hb : b = q
      · rw [hb, upd_same, hq, ← List.length_map (as := us) (f := fun p => kV p.1), List.take_length]
      · rw [upd_ne hb]
    rw [eH]; exact I2
  | n + 1, i, H, s, hn, hi, I, hit, fp, hl, hq, done => by
    have hlt : i < us.length := by omega
    obtain ⟨f0, f1, f2, f3, f4, f5⟩ := id fp
    obtain ⟨hs, hgd, hx, es', ep', vs, hdt, hsz, kv, hm⟩ := I.frzK hl
    obtain ⟨rfl, rfl⟩ := dict_ep hdat hdt
    obtain ⟨⟨k, v⟩, hkv⟩ : ∃ p, us[i]? = some p := ⟨us[i], List.getElem?_eq_getElem hlt⟩
    obtain ⟨u, hu, ru⟩ := kv_get kv hkv
    have hll : us.length = vs.length := Paired.length kv
    have hv : (us.map fun p => kV p.1)[i]? = some (kV k) := by rw [List.getElem?_map, hkv]; rfl
    refine codeAny_builtin PySem.F.entry_extend_loop ?_
    rw [Around.under_plainId PySem.F.plain_extend_loop _]
    show wpAny _ A1.in1 (pyNext (.ref it) >>= _) _ _ s
    refine wpAny_bind (wpAny_pyNext_dict_item (hll ▸ hit) hm hu fun key h' hkey hit' sb => ?_)
    have I2 : Inv X pins σ H { s with heap := h' } := I.turned (t' := s.toks) (fun b o hb z => (sb.2 b hb).trans z) f0 f1 f3 f4 f5
    obtain ⟨zq, itq, nq, rq, lenq, eq⟩ := I2.lstM hq
    have lt : ((us.map fun p => kV p.1).take i).length = i := by rw [List.length_take, List.length_map]; omega
    show wpAny _ A1.in1 (updateSeq q (·.push key) >>= _) _ _ _
    refine wpAny_bind (wpAny_updateSeq eq rfl (wpAny_pure ⟨plainId_quiet PySem.F.plain_extend_loop _, ?_⟩) (by rw [List.size_toArray]; omega) (by show (itq.toArray.push key).size ≤ sizeLine + 1; rw [Array.size_push, List.size_toArray]; omega))
    have I3 := I2.lset (f := (·.push key)) (its' := itq ++ [key]) (t' := s.toks) hq eq (by simp) (rq.append (.cons (relV_key (show keyIs k key = true from hkey)) .nil)) (by rw [List.length_append, List.length_singleton]; omega)
    refine ext_loopK hd hz hlq hiq hdat n (i + 1) _ _ (by omega) hlt I3 ?_ ⟨by rw [upd_ne hiq]; exact f0, f1, f2, f3, f4, f5⟩ (by rw [upd_ne hlq]; exact hl) (by rw [upd_same, take_snoc hv]) fun s' I' => done s' (by rw [upd_upd] at I'; exact I')
    obtain ⟨oi, e1, e2, e3⟩ := hit'
    exact ⟨oi, (Heap.get?_update_other _ _ (fun z => hiq z.symm)).trans e1, e2, hll ▸ e3⟩
/-- no __len__, no hint -/
theorem hint_raw {A1 : Around} {QQ : Bool → Shared → Prop} (h1 : PySem.W.findIn X.K (.ref C) "__len__" = some none) (h2 : PySem.W.findIn X.K (.ref C) "__length_hint__" = some none) (it : InsC X.K A p C) (I : Inv X pins σ H s) (hR : HR X.K A H) (q : QQ true s) : wpAny (model X.prog X.w) A1 (Builtin.List.listLengthHint (.ref p)) QQ X.xe s := by
  obtain ⟨ox, od, J⟩ := ins_at I it hR
  unfold Builtin.List.listLengthHint
  refine wpAny_bind (wpAny_bind (J.type.here ((PySem.W.looks_findIn I.kIn h1).here ?_)))
  refine PySem.W.KFB.if_not rfl ?_
  refine PySem.W.KFB.if_not rfl ?_
  refine wpAny_bind (wpAny_bind (J.type.here ((PySem.W.looks_findIn I.kIn h2).here ?_)))
  exact wpAny_pure q
theorem rps_keys {K : PySem.W.Frag} {H H' : Hp} : ∀ {us : List (Key × V)} {kvs : List (Key × TL.D)}, KVr K H us kvs → Rps K H' (us.map fun p => kV p.1) (kvs.map fun q => kD q.1)
  | _, _, .nil => .nil
  | (k1, v) :: us, (k2, d) :: kvs, .cons ⟨e, r⟩ t => by
    have e : k1 = k2 := e
    subst e
    refine .cons ?_ (rps_keys t)
    cases k1 with
    | inl j => exact .int
    | inr s => exact .str
/-- list(o), the dict of o is locked -/
theorem caw_listK {kf : Nat} {fi : Addr} (hm : Meth X.K C "__iter__" fi) (F : ItFnK X.prog X.w X.K X.mg X.base kf fi C fld) (hr : Room (kf + 2) X.A) (h1 : PySem.W.findIn X.K (.ref C) "__len__" = some none) (h2 : PySem.W.findIn X.K (.ref C) "__length_hint__" = some none) (hf : FldO X.K A p C fld l) (ho : A l = some (.prim (.roK od us kvs))) (hz : kvs.length ≤ sizeLine)
    (h : ∀ q, A q = none → Q (.ref q) (updA A q (.prim (.lst (kvs.map fun q => kD q.1))))) : CaW X (.type "list") [.ref p] A Q := by
  refine ⟨fun vs H R => vs = [.ref p] ∧ HR X.K A H ∧ ∀ v H' d A', Kp X.K H H' → Rp X.K H' v d → HR X.K A' H' → Q d A' → R v H', ?_, fun H vs hR rps R hq => ?_⟩
  · intro pins s σ H ys us0 R I rv ⟨e, hR, hq⟩
    subst e
    obtain rfl := Vals.ref1 rv
    refine callType_codes (Q₁ := fun obj s₁ => obj = .ref s.heap.objs.size ∧ s₁ = { s with heap := s.heap.push { cls := .type "list", data := .seq #[] } }) PySem.F.called_list (PySem.F.typeCall_list_1 _) PySem.F.entry_list_init
      (code_list_new _ ⟨rfl, rfl⟩) fun obj s1 hs1 => ?_
    obtain ⟨rfl, rfl⟩ := hs1
    generalize hgen : s.heap.objs.size = q
    have hS : (s.heap.push { cls := .type "list", data := .seq #[] }).get? q = some { cls := .type "list", data := .seq #[] } := by rw [← hgen]; exact Heap.get?_push_size _ rfl
    refine ⟨⟨_, hS, rfl⟩, PySem.F.args_list_init_2 _ _, ?_⟩
    have fr : H q = none := by rw [← hgen]; exact I.hok.fresh (Nat.le_refl _)
    have I1 : Inv X pins σ (upd H q (.lst [])) { s with heap := s.heap.push { cls := .type "list", data := .seq #[] } } := by rw [← hgen]; exact I.lnew (its := []) (t' := s.toks) .nil (Nat.zero_le _)
    show wpAny _ _ (do let old ← Builtin.List.listItems (.ref q); Builtin.List.listUpdate (.ref q) (fun _ => #[]); letGo old.toList.reverse; Builtin.List.listExtendWith (.ref q) (.ref p) .none) _ _ _
    refine wpAny_bind ?_
    unfold Builtin.List.listItems
    refine wpAny_bind (wpAny_seqItems hS rfl (wpAny_pure ?_))
    show wpAny _ _ (updateSeq q (fun _ => #[]) >>= fun _ => letGo (#[] : Array Value).toList.reverse >>= fun _ => Builtin.List.listExtendWith (.ref q) (.ref p) .none) _ _ _
    refine wpAny_bind (wpAny_updateSeq hS rfl ?_)
    have I2 := I1.lset (f := fun _ => #[]) (its := []) (its' := []) (ys := []) (t' := s.toks) upd_same hS rfl .nil (Nat.zero_le _)
    rw [upd_upd] at I2
    refine wpAny_bind (wpAny_letGo ?_)
    have fA : A q = none := hR.free fr
    have ex := ex_upd (o := .lst []) fr
    have kk : Kp X.K H (upd H q (.lst [])) := kp_ex ex
    have hR1 : HR X.K (updA A q (.prim (.lst []))) (upd H q (.lst [])) := hR.new (o := .lst []) fr kk ex ⟨[], upd_same, .nil⟩
    have sA : TL.Sub A (updA A q (.prim (.lst []))) := Sub.upd (Sub.refl A) fA
    obtain ⟨dx, gs, e2, e3⟩ := hf.sub sA _ hR1
    obtain ⟨e4, kv⟩ := hR1.at_ (sA _ _ ho)
    have hqp : q ≠ p := fun z => by rw [← z, upd_same] at e2; cases e2
    obtain ⟨mA, J, _⟩ := ins_get I2.hok e2
    obtain ⟨od2, J, _⟩ := J.look
    obtain ⟨m, hF⟩ := I2.fr
    unfold Builtin.List.listExtendWith
    refine wpAny_bind (J.type.here ?_)
    have t1 : Builtin.List.listSameRef (.ref q) (.ref p) = false := by simp [Builtin.List.listSameRef, hqp]
    have t2 : (Value.ref C == Value.type "list") = false := rfl
    have t3 : (Value.ref C == Value.type "tuple") = false := rfl
    simp only [t1, t2, t3, Bool.or_false, Bool.false_eq_true, if_false]
    refine wpAny_bind (wpAny_mono (E := X.xe) (PySem.W.owit_iter hF I2.ok.mod.kin J hm.at_ hm.fn (run_itK F (sub_in2 hr) I2 e2 e3 e4 fun it s3 es ep I3 hdat hit hfp => ?_)) (fun _ _ z => z) fun e s' z => z)
    unfold PySem.W.OwitIt
    refine wpAny_specialOf hit.typeIs PySem.F.slot_dict_keyiterator_next.lookup ?_
    obtain ⟨oi, i1, i2, i3⟩ := id hit
    have I4 := I3.pinned (fp := [it]) (fun b hb => by obtain rfl : b = it := (by simpa using hb); exact hfp) (fun b hb => by obtain rfl : b = it := (by simpa using hb); exact ⟨oi, i1, fun v z => by rw [i3] at z; cases z⟩)
    have pin_in : (it, oi) ∈ pinsAt [it] s3.heap := by simp [pinsAt, i1]
    have itc : InsC X.K (updA A q (.prim (.lst []))) p C := fun H' hr' => let ⟨a, b, c, _⟩ := hf.sub sA H' hr'; ⟨a, b, c⟩
    refine wpAny_bind (wpAny_holding (wpAny_mono (E := X.xe) (hint_raw h1 h2 itc I4 hR1 ?_) (fun _ _ z => z) fun e s' z => z))
    have hlq : l ≠ q := fun z => by rw [z, fA] at ho; cases ho
    have hiq : it ≠ q := fun z => by
      have := hfp.1
      rw [z, upd_same] at this; cases this
    have hul : us.length = kvs.length := Paired.length kv
    have fin : ∀ s6, Inv X (pins ++ pinsAt [it] s3.heap) σ (upd H q (.lst [])) s6 → s6.heap.IsKeyIter it l 0 us.length ep → codeAny (model X.prog X.w) X.A.in1 (.builtin "list.extend.loop" ⟨[.ref q, .ref it, .none], []⟩) (wants (fun r s₂ => r = .none ∧ EP X pins σ R (.ref q) s₂) X.xe) s6 := fun s6 I6 hit6 =>
      ext_loopK hr.in1.in1.hd (by rw [hul]; exact hz) hlq hiq hdat us.length 0 (upd H q (.lst [])) s6 rfl (Nat.zero_le _) I6.unpinned hit6 hfp e4 upd_same fun s7 I7 => ⟨rfl, .ref q, _, I7, rfl, by
        obtain ⟨k8, hr8⟩ := hr_write (m' := .lst (kvs.map fun q => kD q.1)) (u' := .lst (us.map fun p => kV p.1)) hR1 updA_same upd_same (by intro _ z; cases z) (by intro _ _ z; cases z) fun k => ⟨_, upd_same, rps_keys kv⟩
        rw [updA_updA] at hr8
        exact hq _ _ _ _ (kk.trans k8) .ref hr8 (h q fA)⟩
    have quiet := plainId_quiet PySem.F.plain_extend_loop ⟨[.ref q, .ref it, .none], []⟩
    refine wpAny_ite_split (fun _ => ?_) (fun _ => wpAny_pure ⟨quiet, fin s3 I4 hit⟩)
    refine wpAny_bind (wpAny_rule (wpAny_bind (touch_ok I4 upd_same fun s6 I6 => wpAny_pure ⟨quiet, fin s6 I6 ?_⟩)))
    exact ⟨oi, (I6.pin (it, oi) (List.mem_append_right _ (List.mem_append_right _ pin_in))).1, i2, i3⟩
  · obtain ⟨v, rfl, hv⟩ := rps1 rps
    cases hv
    exact ⟨rfl, hR, hq⟩
/-- list(o) -/
theorem evn_listK {kf : Nat} {fi : Addr} {fs : List (Str × TL.D)} (B : BC X N sc) (hg : sc.names.lookup ("list" : Str) = some .globalImplicit) (hmg : X.mg "list" = none) (hm : Meth X.K C "__iter__" fi) (F : ItFnK X.prog X.w X.K X.mg X.base kf fi C fld) (hr : Room (kf + 2) X.A) (h1 : PySem.W.findIn X.K (.ref C) "__len__" = some none) (h2 : PySem.W.findIn X.K (.ref C) "__length_hint__" = some none)
    (he : ∀ A, Ev X o δ A (.ref p)) (hp : A p = some (.prim (.ins C fs))) (hl : fs.lookup fld = some (.ref l)) (hd : A l = some (.prim (.dK kvs))) (hz : kvs.length ≤ sizeLine) (hs : starEach [o] X.env = (false, eval o X.env) :: starEach [] X.env := by rfl) : EvN X (.Call (.Name "list" p_) [o] [] pos) δ A (.lst (kvs.map fun q => kD q.1)) :=
  EvN.lock hd fun od us A1 k Q q => by
    have npl : p ≠ l := fun z => by rw [z, hd] at hp; cases hp
    exact B.callT hg hmg bt_list (EvA.wp (eva_cons ((he _).sub (Sub.refl _)) eva_nil hs) (caw_listK hm F hr h1 h2 (fldO_prim (k _ _ (by rw [updA_ne npl]; exact hp)) hl) (k _ _ updA_same) hz q)) (he := hs)
end TL
/-! data with lists in them: ==, != -/
namespace TL
open PySem PySem.Spec PyProof.Rows L2
section
variable {X : Cx} {e e2 : Expr} {δ : Ds} {A : AH} {pos : Pos} {x y d d2 : TL.D}
variable {α β : Type} [DecidableEq α] [PySem.W.Datum α] [DecidableEq β] [PySem.W.Datum β]
/-- the tree is this datum, where the heap is seen as A -/
def HD (X : Cx) (A : AH) (d : TL.D) (x : α) : Prop := ∀ (A1 : AH), TL.Sub A A1 → ∀ (pins : List (Addr × Obj)) (s : Shared) (σ : St) (H : Hp) (v : V) (u : Value), Inv X pins σ H s → HR X.K A1 H → Rp X.K H v d → RelV v u → PySem.W.Holds s.heap u x
theorem HD.enc [Tree α] {x : α} : HD X A (Tree.enc x) x := fun A1 k pins s σ H v u I hr rp r => Tree.holds I r rp
theorem HD.list [Tree α] {p : Addr} {ys : List α} (hp : A p = some (.prim (.lst (ys.map Tree.enc)))) : HD X A (.ref p) ys := fun A1 k pins s σ H v u I hr rp r => by
  cases rp; cases r
  exact listHolds I hr (k _ _ hp)
theorem HD.pair {x : α} {y : β} (h : HD X A d x) (h2 : HD X A d2 y) : HD X A (.tup [d, d2]) (x, y) := fun A1 k pins s σ H v u I hr rp r => by
  obtain ⟨a, vs, rfl, ht, hv⟩ := rp.tup_inv
  obtain ⟨v1, r1, rfl, e1, hv⟩ := rps_cons hv
  obtain ⟨v2, r2, rfl, e2, hv⟩ := rps_cons hv
  have e := rps_nil hv
  subst e
  cases r
  obtain ⟨its, rv, tp, _⟩ := I.tuple ht
  cases rv with
  | cons q1 rv =>
    cases rv with
    | cons q2 rv =>
      cases rv
      exact PySem.W.holds_pair tp (h A1 k pins s σ H _ _ I hr e1 q1) (h2 A1 k pins s σ H _ _ I hr e2 q2)
theorem HD.sub {A' : AH} {x : α} (h : HD X A d x) (k : TL.Sub A A') : HD X A' d x := fun A1 k1 => h A1 (k.trans k1)
theorem opv_eqD {x y : α} (h : HD X A d x) (h2 : HD X A d2 y) (hu : X.A.units + PySem.W.Datum.depth α < cLine) : OpV X (compareOp .Eq) d d2 A (.bl (decide (x = y))) :=
  opr_datum fun pins s σ H vx vy v u A1 k I hr h1 h3 rx ry Q q => PySem.W.eq_datum (h A1 k pins s σ H _ _ I hr h1 rx) (h2 A1 k pins s σ H _ _ I hr h3 ry) hu q
theorem opv_neD {x y : α} (h : HD X A d x) (h2 : HD X A d2 y) (hu : X.A.units + PySem.W.Datum.depth α < cLine) : OpV X (compareOp .NotEq) d d2 A (.bl (decide (x ≠ y))) :=
  opr_datum fun pins s σ H vx vy v u A1 k I hr h1 h3 rx ry Q q => PySem.W.ne_datum (h A1 k pins s σ H _ _ I hr h1 rx) (h2 A1 k pins s σ H _ _ I hr h3 ry) hu q
end
end TL
/-! data of any shape: None, texts, ints, tuples, lists -/
namespace TL
open PySem PySem.Spec PyProof.Rows L2
inductive U where
  | n | s (z : Str) | i (z : Int) | tup (xs : List U) | lst (xs : List U)
noncomputable instance : DecidableEq U := fun a b => Classical.propDecidable _
mutual
def U.toD : U → PyData
  | .n => .none
  | .s z => .str z
  | .i z => .int z
  | .tup xs => .tuple (U.toDs xs)
  | .lst xs => .list (U.toDs xs)
def U.toDs : List U → List PyData
  | [] => []
  | x :: xs => x.toD :: U.toDs xs
end
mutual
def U.dp : U → Nat
  | .n => 0
  | .s _ => 0
  | .i _ => 0
  | .tup xs => U.dps xs + 1
  | .lst xs => U.dps xs + 1
def U.dps : List U → Nat
  | [] => 0
  | x :: xs => max x.dp (U.dps xs)
end
mutual
theorem U.plain : ∀ a : U, a.toD.plain = true
  | .n => by simp only [U.toD, PyData.plain]
  | .s _ => by simp only [U.toD, PyData.plain]
  | .i _ => by simp only [U.toD, PyData.plain]
  | .tup xs => by simp only [U.toD, PyData.plain]; exact U.plains xs
  | .lst xs => by simp only [U.toD, PyData.plain]; exact U.plains xs
theorem U.plains : ∀ xs : List U, PyData.plainAll (U.toDs xs) = true
  | [] => by simp only [U.toDs, PyData.plainAll]
  | x :: xs => by
    simp only [U.toDs, PyData.plainAll]
    rw [U.plain x, U.plains xs]; rfl
end
mutual
theorem U.depth : ∀ a : U, a.toD.depth ≤ a.dp
  | .n => by simp only [U.toD, PyData.depth]; exact Nat.zero_le _
  | .s _ => by simp only [U.toD, PyData.depth]; exact Nat.zero_le _
  | .i _ => by simp only [U.toD, PyData.depth]; exact Nat.zero_le _
  | .tup xs => by simp only [U.toD, PyData.depth, U.dp]; exact Nat.succ_le_succ (U.depths xs)
  | .lst xs => by simp only [U.toD, PyData.depth, U.dp]; exact Nat.succ_le_succ (U.depths xs)
theorem U.depths : ∀ xs : List U, PyData.depthAll (U.toDs xs) ≤ U.dps xs
  | [] => by simp only [U.toDs, PyData.depthAll, U.dps]; exact Nat.le_refl _
  | x :: xs => by
    simp only [U.toDs, PyData.depthAll, U.dps]
    exact Nat.max_le.mpr ⟨Nat.le_trans (U.depth x) (Nat.le_max_left _ _), Nat.le_trans (U.depths xs) (Nat.le_max_right _ _)⟩
end
mutual
theorem U.eqv : ∀ a b : U, PyData.eqv a.toD b.toD = decide (a = b)
  | .n, b => by
    cases b <;> simp [U.toD, PyData.eqv]
  | .s z, b => by
    cases b with
    | s y => simp only [U.toD, PyData.eqv]; exact (PySem.W.beq_decide z y).trans (decide_eq_decide.mpr ⟨fun e => by rw [e], fun e => U.s.inj e⟩)
    | _ => simp [U.toD, PyData.eqv]
  | .i z, b => by
    cases b with
    | i y => simp only [U.toD, PyData.eqv]; exact (PySem.W.beq_decide z y).trans (decide_eq_decide.mpr ⟨fun e => by rw [e], fun e => U.i.inj e⟩)
    | _ => simp [U.toD, PyData.eqv]
  | .tup xs, b => by
    cases b with
    | tup ys => simp only [U.toD, PyData.eqv]; exact (U.eqvs xs ys).trans (decide_eq_decide.mpr ⟨fun e => by rw [e], fun e => U.tup.inj e⟩)
    | _ => simp [U.toD, PyData.eqv]
  | .lst xs, b => by
    cases b with
    | lst ys => simp only [U.toD, PyData.eqv]; exact (U.eqvs xs ys).trans (decide_eq_decide.mpr ⟨fun e => by rw [e], fun e => U.lst.inj e⟩)
    | _ => simp [U.toD, PyData.eqv]
theorem U.eqvs : ∀ xs ys : List U, PyData.eqvAll (U.toDs xs) (U.toDs ys) = decide (xs = ys)
  | [], [] => by simp [U.toDs, PyData.eqvAll]
  | [], _ :: _ => by simp [U.toDs, PyData.eqvAll]
  | _ :: _, [] => by simp [U.toDs, PyData.eqvAll]
  | x :: xs, y :: ys => by
    simp only [U.toDs, PyData.eqvAll]
    rw [U.eqv x y, U.eqvs xs ys, ← Bool.decide_and]
    exact decide_eq_decide.mpr (by rw [List.cons.injEq])
end
abbrev UD := { u : U // u.dp ≤ 12 }
noncomputable instance : PySem.W.Datum UD where
  toD a := a.1.toD
  plain a := a.1.plain
  eqv a b := (U.eqv a.1 b.1).trans (decide_eq_decide.mpr Subtype.ext_iff.symm)
  depth := 12
  depth_le a := Nat.le_trans a.1.depth a.2
/-- the tree d, where the heap is seen as A, is this datum -/
inductive HU (A : AH) : TL.D → U → Prop
  | n : HU A .non .n
  | s {z : Str} : HU A (.str z) (.s z)
  | i {z : Int} : HU A (.int z) (.i z)
  | tup {ds : List TL.D} {us : List U} : ds.length = us.length → (∀ (j : Nat) d u, ds[j]? = some d → us[j]? = some u → HU A d u) → HU A (.tup ds) (.tup us)
  | lst {p : Addr} {ds : List TL.D} {us : List U} : A p = some (.prim (.lst ds)) → ds.length = us.length → (∀ (j : Nat) d u, ds[j]? = some d → us[j]? = some u → HU A d u) → HU A (.ref p) (.lst us)
theorem HU.sub {A A' : AH} {d : TL.D} {u : U} (h : HU A d u) (k : TL.Sub A A') : HU A' d u := by
  induction h with
  | n => exact .n
  | s => exact .s
  | i => exact .i
  | tup hl _ ih => exact .tup hl ih
  | lst hp hl _ ih => exact .lst (k _ _ hp) hl ih
abbrev HUs (A : AH) : List TL.D → List U → Prop := Paired (HU A)
theorem HU.tups {A : AH} {ds : List TL.D} {us : List U} (h : HUs A ds us) : HU A (.tup ds) (.tup us) := .tup (Paired.length h) (Paired.at_ h)
theorem HU.lsts {A : AH} {p : Addr} {ds : List TL.D} {us : List U} (hp : A p = some (.prim (.lst ds))) (h : HUs A ds us) : HU A (.ref p) (.lst us) := .lst hp (Paired.length h) (Paired.at_ h)
theorem HUs.sub {A A' : AH} {ds : List TL.D} {us : List U} (h : HUs A ds us) (k : TL.Sub A A') : HUs A' ds us := Paired.mapP h fun _ _ q => q.sub k
theorem HUs.map {A : AH} {α : Type} {f : α → TL.D} {g : α → U} : ∀ {xs : List α}, (∀ x ∈ xs, HU A (f x) (g x)) → HUs A (xs.map f) (xs.map g)
  | [], _ => .nil
  | x :: xs, h => .cons (h x List.mem_cons_self) (HUs.map fun y hy => h y (List.mem_cons_of_mem _ hy))
theorem reads_all {X : Cx} {H : Hp} {h : Heap} : ∀ {vs : List V} {its : List Value} {ds : List TL.D} {us : List U}, Vals vs its → Rps X.K H vs ds → ds.length = us.length → (∀ (j : Nat) d u, ds[j]? = some d → us[j]? = some u → ∀ v w, Rp X.K H v d → RelV v w → ∃ as, Reads h w u.toD as) → ∃ as, ReadsAll h its (U.toDs us) as
  | _, _, [], [], .nil, _, _, _ => ⟨_, .nil⟩
  | _, _, [], [], .cons _ _, h, _, _ => by cases h
  | _, _, _ :: _, [], _, _, hl, _ => by simp at hl
  | _, _, [], _ :: _, _, _, hl, _ => by simp at hl
  | _, _, _ :: _, _ :: _, .nil, h, _, _ => by cases h
  | _, _, d :: ds, u :: us, .cons r t, h, hl, k => by
    cases h with
    | cons a b =>
      obtain ⟨as, q⟩ := k 0 d u rfl rfl _ _ a r
      obtain ⟨bs, qs⟩ := reads_all t b (by simpa using hl) fun j d' u' h1 h2 => k (j + 1) d' u' (by simpa using h1) (by simpa using h2)
      exact ⟨_, .cons q qs⟩
theorem HU.reads {X : Cx} {A : AH} {d : TL.D} {u : U} (h : HU A d u) : ∀ (A1 : AH), TL.Sub A A1 → ∀ (pins : List (Addr × Obj)) (s : Shared) (σ : L2.St) (H : Hp) (v : V) (w : Value), Inv X pins σ H s → HR X.K A1 H → Rp X.K H v d → RelV v w → ∃ as, Reads s.heap w u.toD as := by
  induction h with
  | n => intro A1 k pins s σ H v w I hr rp r; cases rp; cases r; exact ⟨_, .none⟩
  | s => intro A1 k pins s σ H v w I hr rp r; cases rp; obtain ⟨t, rfl⟩ := r; exact ⟨_, .str _ _⟩
  | i => intro A1 k pins s σ H v w I hr rp r; cases rp; obtain ⟨t, rfl⟩ := r; exact ⟨_, .int _ _⟩
  | tup hl _ ih =>
    intro A1 k pins s σ H v w I hr rp r
    obtain ⟨a, vs, rfl, ht, hv⟩ := rp.tup_inv
    cases r
    obtain ⟨its, rv, tp, _⟩ := I.tuple ht
    obtain ⟨as, q⟩ := reads_all (h := s.heap) rv hv hl fun j d' u' h1 h2 v' w' a b => ih j d' u' h1 h2 A1 k pins s σ H v' w' I hr a b
    obtain ⟨o, ho, hc, n, hd⟩ := tp
    exact ⟨_, .tuple ho hc hd (by simpa using q)⟩
  | lst hp hl _ ih =>
    intro A1 k pins s σ H v w I hr rp r
    obtain ⟨vs, e1, hv⟩ := hr.at_ (k _ _ hp)
    cases rp
    cases r
    obtain ⟨its, rv, pl, _⟩ := I.list (.of e1)
    obtain ⟨as, q⟩ := reads_all (h := s.heap) rv hv hl fun j d' u' h1 h2 v' w' a b => ih j d' u' h1 h2 A1 k pins s σ H v' w' I hr a b
    obtain ⟨o, ho, hc, n, hd⟩ := pl.isList
    exact ⟨_, .list ho hc hd (by simpa using q)⟩
theorem HU.hd {X : Cx} {A : AH} {d : TL.D} {u : U} (h : HU A d u) (hd : u.dp ≤ 12) : HD X A d (⟨u, hd⟩ : UD) := fun A1 k pins s σ H v w I hr rp r => h.reads A1 k pins s σ H v w I hr rp r
section
variable {X : Cx} {e e2 : Expr} {es : List Expr} {δ : Ds} {A : AH} {pos : Pos} {u u2 : U} {us : List U} {d : TL.D} {k : Nat}
/-- e gives this datum, all that is seen stays -/
def EvU (X : Cx) (e : Expr) (δ : Ds) (A : AH) (u : U) : Prop := ∀ A1, TL.Sub A A1 → ∀ Q : TQ, (∀ d A', TL.Sub A1 A' → HU A' d u → Q d A') → WPE X e δ A1 Q
def EvUA (X : Cx) (es : List Expr) (δ : Ds) (A : AH) (us : List U) : Prop := ∀ A1, TL.Sub A A1 → ∀ Q : LsQ, (∀ ds A', TL.Sub A1 A' → HUs A' ds us → Q ds A') → WPA X es δ A1 Q
theorem Ev.toU (h : Ev X e δ A d) (hu : HU A d u) : EvU X e δ A u := fun A1 k Q q => (h.sub k).wp (q d A1 (Sub.refl _) (hu.sub k))
theorem EvN.toU {ds : List TL.D} (h : EvN X e δ A (.lst ds)) (hu : HUs A ds us) : EvU X e δ A (.lst us) := fun A1 k Q q => (h.sub k).wp fun p hp => q _ _ (Sub.upd (Sub.refl _) hp) (HU.lsts updA_same (hu.sub (k.trans (Sub.upd (Sub.refl _) hp))))
theorem EvU.sub {A' : AH} (h : EvU X e δ A u) (k : TL.Sub A A') : EvU X e δ A' u := fun A1 k1 => h A1 (k.trans k1)
theorem EvU.to {u' : U} (h : EvU X e δ A u') (k : u' = u) : EvU X e δ A u := k ▸ h
theorem eu_nil : EvUA X [] δ A [] := fun A1 k Q q => wpa_nil (q [] A1 (Sub.refl _) .nil)
theorem eu_cons (h : EvU X e δ A u) (h2 : EvUA X es δ A us) (hs : starEach (e :: es) X.env = (false, eval e X.env) :: starEach es X.env := by rfl) : EvUA X (e :: es) δ A (u :: us) := fun A1 k Q q =>
  wpa_cons (h A1 k _ fun d A2 k2 hu => h2 A2 (k.trans k2) _ fun ds A3 k3 hus => q _ _ (k2.trans k3) (.cons (hu.sub k3) hus)) hs
theorem eu_tup {j : Nat} (h : EvUA X es δ A us) (hz : us.length ≤ sizeLine) : EvU X (.Tuple es j pos) δ A (.tup us) := fun A1 k Q q =>
  wpe_tup (h A1 k _ fun ds A2 k2 hu => ⟨by rw [Paired.length hu]; exact hz, q _ _ k2 (HU.tups hu)⟩)
theorem eu_lst (h : EvUA X es δ A us) (hz : us.length ≤ sizeLine) : EvU X (.List es pos) δ A (.lst us) := fun A1 k Q q =>
  wpe_lst (h A1 k _ fun ds A2 k2 hu => ⟨by rw [Paired.length hu]; exact hz, fun p hp => q _ _ (k2.trans (Sub.upd (Sub.refl _) hp)) (HU.lsts updA_same (hu.sub (Sub.upd (Sub.refl _) hp)))⟩)
theorem uU {k : Nat} (room : Room k X.A) : X.A.units + PySem.W.Datum.depth UD < cLine := by have := room.units; show X.A.units + 12 < _; omega
theorem wpe_eqU {Q : TQ} (room : Room k X.A) (h : EvU X e δ A u) (h2 : EvU X e2 δ A u2) (d1 : u.dp ≤ 12) (d2 : u2.dp ≤ 12) (q : ∀ A', TL.Sub A A' → Q (.bl (decide (u = u2))) A') (hm : behindInMarks .Eq e2 = false := by rfl) : WPE X (.Compare e [.Eq] [e2] pos) δ A Q :=
  wpe_cmp hm (h A (Sub.refl _) _ fun d A2 k2 hu => h2 A2 k2 _ fun d' A3 k3 hu2 => OpV.w (opv_eqD (x := (⟨u, d1⟩ : UD)) (y := ⟨u2, d2⟩) ((hu.sub k3).hd d1) (hu2.hd d2) (uU room)) (by
    rw [show decide ((⟨u, d1⟩ : UD) = ⟨u2, d2⟩) = decide (u = u2) from decide_eq_decide.mpr Subtype.ext_iff]
    exact q _ (k2.trans k3)))
theorem wpe_neU {Q : TQ} (room : Room k X.A) (h : EvU X e δ A u) (h2 : EvU X e2 δ A u2) (d1 : u.dp ≤ 12) (d2 : u2.dp ≤ 12) (q : ∀ A', TL.Sub A A' → Q (.bl (decide (u ≠ u2))) A') (hm : behindInMarks .NotEq e2 = false := by rfl) : WPE X (.Compare e [.NotEq] [e2] pos) δ A Q :=
  wpe_cmp hm (h A (Sub.refl _) _ fun d A2 k2 hu => h2 A2 k2 _ fun d' A3 k3 hu2 => OpV.w (opv_neD (x := (⟨u, d1⟩ : UD)) (y := ⟨u2, d2⟩) ((hu.sub k3).hd d1) (hu2.hd d2) (uU room)) (by
    rw [show decide ((⟨u, d1⟩ : UD) ≠ ⟨u2, d2⟩) = decide (u ≠ u2) from decide_eq_decide.mpr (not_congr Subtype.ext_iff)]
    exact q _ (k2.trans k3)))
theorem wpt_neU {Q : BQ} (room : Room k X.A) (h : EvU X e δ A u) (h2 : EvU X e2 δ A u2) (d1 : u.dp ≤ 12) (d2 : u2.dp ≤ 12) (q : ∀ A', TL.Sub A A' → Q (decide (u ≠ u2)) A') (hm : behindInMarks .NotEq e2 = false := by rfl) : WPT X (.Compare e [.NotEq] [e2] pos) δ A Q :=
  wpt_cmp hm (h A (Sub.refl _) _ fun d A2 k2 hu => h2 A2 k2 _ fun d' A3 k3 hu2 => OpV.w (opv_neD (x := (⟨u, d1⟩ : UD)) (y := ⟨u2, d2⟩) ((hu.sub k3).hd d1) (hu2.hd d2) (uU room)) (by
    rw [show decide ((⟨u, d1⟩ : UD) ≠ ⟨u2, d2⟩) = decide (u ≠ u2) from decide_eq_decide.mpr (not_congr Subtype.ext_iff)]
    exact ⟨_, rfl, q _ (k2.trans k3)⟩))
/-- the same data: != says no, == says yes -/
theorem et_neU (room : Room k X.A) (h : EvU X e δ A u) (h2 : EvU X e2 δ A u) (d1 : u.dp ≤ 12) (hm : behindInMarks .NotEq e2 = false := by rfl) : EvT X (.Compare e [.NotEq] [e2] pos) δ A false := fun A1 k1 Q q => by
  have t := fun Q => wpt_neU (pos := pos) (A := A1) (Q := Q) room (h.sub k1) (h2.sub k1) d1 d1 (hm := hm)
  exact WPT.monoV (t (fun b A' => b = false ∧ TL.Sub A1 A') fun A' s => ⟨by simp, s⟩) fun b A' ⟨eb, s⟩ => ⟨A1, Vw.sub s, by rw [eb]; exact q⟩
theorem ev_eqU (room : Room k X.A) (h : EvU X e δ A u) (h2 : EvU X e2 δ A u) (d1 : u.dp ≤ 12) (hm : behindInMarks .Eq e2 = false := by rfl) : Ev X (.Compare e [.Eq] [e2] pos) δ A (.bl true) := fun A1 k1 Q q => by
  have t := fun Q => wpe_eqU (pos := pos) (A := A1) (Q := Q) room (h.sub k1) (h2.sub k1) d1 d1 (hm := hm)
  exact WPE.monoV (t (fun b A' => b = .bl true ∧ TL.Sub A1 A') fun A' s => ⟨by simp, s⟩) fun b A' ⟨eb, s⟩ => ⟨A1, Vw.sub s, by rw [eb]; exact q⟩
end
theorem U.dps_map {α : Type} {f : α → U} {m : Nat} : ∀ {xs : List α}, (∀ x ∈ xs, (f x).dp ≤ m) → U.dps (xs.map f) ≤ m
  | [], _ => by simp only [List.map_nil, U.dps]; exact Nat.zero_le _
  | x :: xs, h => by
    simp only [List.map_cons, U.dps]
    exact Nat.max_le.mpr ⟨h x List.mem_cons_self, U.dps_map fun y hy => h y (List.mem_cons_of_mem _ hy)⟩
end TL
/-! a dict display with one pair -/
namespace TL
open PySem PySem.Spec PyProof.Rows L2
variable {X : Cx} {δ : Ds} {A : AH} {d : TL.D} {pos : Pos}
theorem evn_dict1 {kx vx : Expr} {k : Key} (hk : Ev X kx δ A (kD k)) (hv : Ev X vx δ A d) : EvN X (.Dict [some kx] [vx] pos) δ A (.dK [(k, d)]) := fun A1 kk Q q σ H s r => by
  refine runE.of (pe_disp (pps_cons pe_run pe_run pps_nil) rfl rfl (by simp) (show 1 ≤ 15 by decide)) fun p hp => ?_
  have ex := ex_upd (o := .dK []) hp
  have k1 : Kp X.K H (upd H p (.dK [])) := kp_ex ex
  have hr1 := r.new (o := .dK []) hp k1 ex ⟨[], upd_same, .nil⟩
  have fA := r.free hp
  have sA := Sub.upd (o := .prim (.dK [])) (Sub.refl A1) fA
  have hk2 : WPE X kx δ (updA A1 p (.prim (.dK []))) fun x A2 => x = kD k ∧ A2 = updA A1 p (.prim (.dK [])) := hk _ (kk.trans sA) _ ⟨rfl, rfl⟩
  have hv2 : WPE X vx δ (updA A1 p (.prim (.dK []))) fun x A2 => x = d ∧ A2 = updA A1 p (.prim (.dK [])) := hv _ (kk.trans sA) _ ⟨rfl, rfl⟩
  refine runE.mono (hk2 σ _ (s.keep k1) hr1) fun vx H1 ⟨x, A2, k2, rx, hr2, e1, e2⟩ => ?_
  subst e1 e2
  refine runE.mono (hv2 σ H1 ((s.keep k1).keep k2) hr2) fun vy H2 ⟨y, A3, k3, ry, hr3, e1, e2⟩ => ?_
  subst e1 e2
  obtain ⟨us, h1, h2⟩ := hr3.at_ updA_same
  cases h2
  have ev := kv_kD rx
  subst ev
  refine ⟨h1, [(k, vy)], rfl, by simp, ?_⟩
  obtain ⟨k4, hr4⟩ := hr_write (m' := .dK [(k, y)]) (u' := .dK [(k, vy)]) hr3 updA_same h1 (by intro _ z; cases z) (by intro _ _ z; cases z) fun kk => ⟨_, upd_same, .cons ⟨rfl, ry.keep kk⟩ .nil⟩
  rw [updA_updA] at hr4
  exact ⟨.ref p, _, ((k1.trans k2).trans k3).trans k4, .ref, hr4, q p fA⟩
end TL
/-! tuples from the back; lists times ints -/
namespace TL
open PySem PySem.Spec PyProof.Rows L2
section
variable {prog : Program} {w : World} {A : Around} {E : Value → Shared → Prop} {s : Shared}
open Builtin.Slice in
theorem sliceRev {sl : Addr} {vs : Value} {n : Nat} {Q : Int × Int × Nat → Shared → Prop} (hs : s.heap.IsSliceOf sl .none .none vs) (ps : IsPart vs (some (-1)))
    (h : Q ((n : Int) - 1, -1, n) s) : wpAny (model prog w) A (Builtin.Slice.sliceApplied (.ref sl) (pure (n : Int))) Q E s := by
  obtain ⟨os, hos, hcs, hds⟩ := id hs
  unfold Builtin.Slice.sliceApplied Builtin.Slice.sliceFields
  refine wpAny_bind (wpAny_bind (wpAny_field hos hds (x := .none) rfl (wpAny_bind (wpAny_field hos hds (x := .none) rfl (wpAny_bind (wpAny_field hos hds (x := vs) rfl (wpAny_pure ?_)))))))
  refine wpAny_bind (HT.slicePart_ ps ?_)
  show wpAny _ _ (if ((-1 : Int) == 0) = true then _ else _) _ _ s
  rw [if_neg (by decide)]
  refine wpAny_bind (HT.slicePart_ .none (wpAny_bind (HT.slicePart_ .none (wpAny_bind (wpAny_pure ?_)))))
  have e1 : sliceAdjust none none (-1) (n : Int) = ((n : Int) - 1, -1) := by
    unfold sliceAdjust
    simp
  have e2 : slicePlaces ((n : Int) - 1) (-1) (-1) = n := by
    unfold slicePlaces
    by_cases hn : n = 0
    · subst hn; rfl
    · have h1 : ¬ ((-1 : Int) > 0) := by decide
      simp only [h1, if_false, Int.neg_neg, Int.ediv_one]
      split <;> omega
  show wpAny _ _ (match sliceAdjust none none (-1) (n : Int) with | (lo, hi) => pure (lo, (-1 : Int), slicePlaces lo hi (-1))) _ _ s
  rw [e1]
  show wpAny _ _ (pure ((n : Int) - 1, (-1 : Int), slicePlaces ((n : Int) - 1) (-1) (-1))) _ _ s
  rw [e2]
  exact wpAny_pure h
theorem fm_congr {α β : Type} {f g : α → Option β} : ∀ {l : List α}, (∀ x ∈ l, f x = g x) → l.filterMap f = l.filterMap g
  | [], _ => rfl
  | a :: l, h => by
    rw [List.filterMap_cons, List.filterMap_cons, h a List.mem_cons_self, fm_congr fun x hx => h x (List.mem_cons_of_mem _ hx)]
theorem pick_rev (xs : Array Value) : ((List.range xs.size).filterMap fun (m : Nat) => xs[(((xs.size : Int) - 1) + (m : Int) * -1).toNat]?).toArray = xs.toList.reverse.toArray := by
  have h := HT.pick_gen xs.toList.reverse.toArray 0 xs.size
  rw [List.drop_zero, List.take_of_length_le (by simp)] at h
  rw [← h]
  congr 1
  refine fm_congr fun m hm => ?_
  have hm' : m < xs.size := List.mem_range.mp hm
  have e1 : (((xs.size : Int) - 1) + (m : Int) * -1).toNat = xs.size - 1 - m := by omega
  have e2 : ((0 : Nat) : Int) + (m : Int) * 1 = (m : Int) := by omega
  rw [e1, show (((0 : Nat) : Int) + (m : Int) * 1).toNat = m by omega]
  have e3 : xs.toList.reverse.toArray[m]? = xs.toList.reverse[m]? := by simp
  have e4 : xs[xs.size - 1 - m]? = xs.toList[xs.size - 1 - m]? := by simp
  rw [e3, e4, List.getElem?_reverse (by simpa using hm')]
  rw [Array.length_toList]
theorem getItem_tuple_rev {t sl : Addr} {items : Array Value} {vs : Value} {Q : Value → Shared → Prop} (ht : IsTup s.heap t items) (hs : s.heap.IsSliceOf sl .none .none vs) (ps : IsPart vs (some (-1)))
    (h : Q (.ref s.heap.objs.size) { s with heap := s.heap.push { cls := .type "tuple", data := .seq items.toList.reverse.toArray } })
    (hsz : items.size ≤ sizeLine) : wpAny (model prog w) A (getItem (.ref t) (.ref sl)) Q E s := by
  have htake : sizeOk (.seq items.toList.reverse.toArray) := by
    show items.toList.reverse.toArray.size ≤ sizeLine
    simpa using hsz
  obtain ⟨os, hos, hcs, hds⟩ := id hs
  have hTs : s.TypeIs (.ref sl) "slice" := ⟨os, hos, hcs⟩
  unfold getItem
  try with_reducible refine wpAny_holding ?_
  first | refine wpAny_bind (wpAny_pure ?_) | skip
  refine wpAny_bind (wpAny_sequenceKey ht.typeIs (by decide) ?_)
  refine wpAny_bind (wpAny_callSpecial?_slot (name := Str.ofString "__getitem__") ht.typeIs PyProof.Rows.slot_tuple_getitem
    (wpAny_call_entry PyProof.Rows.slot_tuple_getitem ht.typeIs entry_tuple_getitem ?_ (args_tuple_getitem _ _)))
  show wpAny _ _ (Builtin.Tuple.tupleItemsOf (.ref t) >>= _) _ _ s
  refine wpAny_bind (tupleItemsOf_ ht ?_)
  refine wpAny_bind (wpAny_typeOf hTs ?_)
  rw [if_pos (by decide)]
  refine wpAny_bind (sliceRev hs ps ?_)
  have hno : ¬ ((((items.size : Int) - 1) == 0 && (-1 : Int) == 1 && items.size == items.size) = true) := by
    intro q
    rw [Bool.and_eq_true, Bool.and_eq_true] at q
    exact absurd q.1.2 (by decide)
  show wpAny _ _ (if (((items.size : Int) - 1) == 0 && (-1 : Int) == 1 && items.size == items.size) = true then _ else _) _ _ s
  rw [if_neg hno, pick_rev]
  first
    | exact wpAny_bind (m := Builtin.Tuple.tupleExact _) (wpAny_newObj_type (wpAny_pure ⟨_, rfl, wpAny_pure h⟩) htake)
    | exact wpAny_bind (m := Builtin.Tuple.tupleExact _) (wpAny_newObj_type (wpAny_bind (wpAny_pure (wpAny_pure ⟨_, rfl, wpAny_pure h⟩))) htake)
    | exact wpAny_bind (wpAny_bind (m := Builtin.Tuple.tupleExact _) (wpAny_newObj_type (wpAny_pure (wpAny_pure ⟨_, rfl, wpAny_pure h⟩)) htake))
    | exact wpAny_bind (wpAny_bind (m := Builtin.Tuple.tupleExact _) (wpAny_newObj_type (wpAny_pure ⟨_, rfl, wpAny_pure h⟩) htake))
end
section
variable {X : Cx} {e a : Expr} {δ : Ds} {A : AH} {pos : Pos}
def tRevT (K : PySem.W.Frag) (te : TE) : TE := fun σ H Q => te σ H fun x H1 => ∃ a xs, x = .ref a ∧ SqT K H1 a xs ∧ ∀ p, H1 p = none → Q (.ref p) (upd H1 p (.tup xs.reverse))
theorem pe_revT {te : TE} {k : Nat} {p1 p2 p3 : Pos} (he : PE X e te) : PE X (.Subscript e (.Slice none none (some (.UnaryOp .USub (.Constant (.int 1) k p1) p2)) p3) pos) (tRevT X.K te) := by
  refine ⟨fun pins s σ H Q I h => ?_⟩
  refine Subscript_ (thn (he.run pins s σ H _ I h) fun v s1 ⟨x, H1, I1, r1, q1⟩ => ?_)
  obtain ⟨a, xs, ex, hx, q⟩ := q1
  subst ex
  cases r1
  have hst : PO X (some (.UnaryOp .USub (.Constant (.int 1) k p1) p2)) (tPart (tUn (rU fun i => .int (-i)) (tC (.int 1)))) := po_some (pe_un un_neg pe_int)
  refine wpAny_Slice (thn (po_none.run pins s1 σ H1 (fun o H2 => o = none ∧ H2 = H1) I1 ⟨rfl, rfl⟩) fun vl s2 ⟨l, H2, I2, pl, el, e2⟩ => ?_)
  subst el e2
  refine thn (po_none.run pins s2 σ H2 (fun o H3 => o = none ∧ H3 = H2) I2 ⟨rfl, rfl⟩) fun vu s3 ⟨u, H3, I3, pu, eu, e3⟩ => ?_
  subst eu e3
  refine thn (hst.run pins s3 σ H3 (fun o H4 => o = some (-1) ∧ H4 = H3) I3 ⟨1, rfl, -1, rfl, rfl, rfl⟩) fun vs s4 ⟨o, H4, I4, ps, eo, e4⟩ => ?_
  subst eo e4
  cases pl
  cases pu
  have I5 : Inv X pins σ H4 { s4 with heap := s4.heap.push { cls := .type "slice", data := .fields #[.none, .none, vs] } } := I4.kept (t' := s4.toks) fun b ob q => Heap.get?_push_of_some _ q
  obtain ⟨its, r, ht, hz⟩ := I5.tuple hx
  have hlen := r.length
  show wpAny (model X.prog X.w) X.A (subscriptTail e (.Slice none none (some (.UnaryOp .USub (.Constant (.int 1) k p1) p2)) p3) (.ref a) (.ref s4.heap.objs.size)) (EP X pins σ Q) X.xe { s4 with heap := s4.heap.push { cls := .type "slice", data := .fields #[.none, .none, vs] } }
  refine tail_any (ops := [.ref a, .ref s4.heap.objs.size]) ht.typeIs (PyProof.Rows.slot_tuple_getitem.lookup) ?_ (by with_unfolding_all rfl)
  refine getItem_tuple_rev ht (Heap.IsSliceOf.new _ .none .none vs) ps ?_ (by rw [List.size_toArray]; omega)
  refine ⟨.ref _, _, I5.laid (t' := s4.toks) (o := .tup xs.reverse) (fun b ob q => Heap.get?_push_of_some _ q) (Nat.le_refl _) ?_, rfl, q _ (I5.hok.fresh (Nat.le_refl _))⟩
  exact ⟨by rw [List.length_reverse]; exact hz, _, r.reverse, IsTup.new _ _⟩
theorem ev_revT {k : Nat} {p1 p2 p3 : Pos} {xs : List TL.D} (ha : Ev X a δ A (.tup xs)) : Ev X (.Subscript a (.Slice none none (some (.UnaryOp .USub (.Constant (.int 1) k p1) p2)) p3) pos) δ A (.tup xs.reverse) := fun A1 kk Q q σ H s r => by
  refine runE.of (pe_revT pe_run) (runE.mono (ha A1 kk (fun v A2 => v = .tup xs ∧ A2 = A1) ⟨rfl, rfl⟩ σ H s r) fun v H1 ⟨d, A2, k1, rp, hr, e1, e2⟩ => ?_)
  subst e1 e2
  obtain ⟨p, vs, rfl, h1, h2⟩ := rp.tup_inv
  refine ⟨p, vs, rfl, h1, fun l hl => ?_⟩
  have ex := ex_upd (o := .tup vs.reverse) hl
  have k2 : Kp X.K H1 (upd H1 l (.tup vs.reverse)) := kp_ex ex
  exact ⟨_, A2, k1.trans k2, Rp.tups (.of upd_same) (Rps.keep (paired_rev h2) k2), hr.stay k2 ex, q⟩
/-- xs * k -/
theorem opn_rep {p : Addr} {xs : List TL.D} {k : Int} (hp : A p = some (.prim (.lst xs))) (h1 : 0 ≤ k) (h2 : k < 1000) (hl : xs.length * k.toNat ≤ sizeLine) : OpN X (binaryOp .Mult) (.ref p) (.int k) A (.lst (List.replicate k.toNat xs).flatten) := fun A1 kk Q qq =>
  ⟨_, op_rep, fun H vx vy hr rx ry R q => by
    cases rx; cases ry
    obtain ⟨vs, hv, rv⟩ := hr.at_ (kk _ _ hp)
    have el := Paired.length rv
    refine ⟨p, k, vs, rfl, rfl, hv, by omega, by omega, by rw [el]; exact hl, fun l hl' => ?_⟩
    have ex := ex_upd (o := .lst (List.replicate k.toNat vs).flatten) hl'
    have k2 : Kp X.K H (upd H l (.lst (List.replicate k.toNat vs).flatten)) := kp_ex ex
    have rr : ∀ n : Nat, Rps X.K H (List.replicate n vs).flatten (List.replicate n xs).flatten := fun n => by
      induction n with
      | zero => exact .nil
      | succ n ih => rw [List.replicate_succ, List.replicate_succ, List.flatten_cons, List.flatten_cons]; exact Paired.app rv ih
    exact q _ _ (.ref l) _ k2 .ref (hr.new (o := .lst (List.replicate k.toNat xs).flatten) hl' k2 ex ⟨_, upd_same, Rps.keep (rr _) k2⟩) (qq l (hr.free hl'))⟩
end
end TL
/-! texts: split, partition -/
namespace TL
open PySem PySem.Spec PyProof.Rows L2
variable {X : Cx} {e o : Expr} {δ : Ds} {A : AH} {pos apos : Pos}
/-- a.split(b) -/
theorem evn_split {a b : Str} (ho : Ev X o δ A (.str a)) (he : Ev X e δ A (.str b)) (hb : (b.length == 0) = false) (hz : a.length + 2 ≤ sizeLine) (hs : starEach [e] X.env = [(false, eval e X.env)] := by rfl) (hbase : attributeBase o "split" X.env (eval o X.env) = eval o X.env := by rfl) (hline : (apos.endLine == pos.line) = true := by rfl) :
    EvN X (.Call (.Attribute o "split" apos) [e] [] pos) δ A (.lst ((Txt.split a b).map .str)) := fun A1 k Q q σ H sl r =>
  runE.of (pe_split pe_run pe_run hs hbase hline) (runE.mono (ho A1 k (fun d A2 => d = .str a ∧ A2 = A1) ⟨rfl, rfl⟩ σ H sl r) fun vx H1 ⟨d, A2, k1, rx, hr, e1, e2⟩ => by
    subst e1 e2
    cases rx
    refine ⟨⟨a, rfl⟩, runE.mono (he A2 k (fun d A3 => d = .str b ∧ A3 = A2) ⟨rfl, rfl⟩ σ H1 (sl.keep k1) hr) fun vy H2 ⟨d, A3, k2, ry, hr2, e1, e2⟩ => ?_⟩
    subst e1 e2
    cases ry
    refine ⟨a, b, rfl, rfl, hb, hz, fun p hp => ?_⟩
    have ex := ex_upd (o := .lst ((Txt.split a b).map V.str)) hp
    have kk : Kp X.K H2 (upd H2 p (.lst ((Txt.split a b).map V.str))) := kp_ex ex
    exact ⟨.ref p, _, (k1.trans k2).trans kk, .ref, hr2.new (o := .lst ((Txt.split a b).map .str)) hp kk ex ⟨_, upd_same, strs_rps _⟩, q p (hr2.free hp)⟩)
/-- a.partition(b) -/
theorem ev_partition {a b : Str} (ho : Ev X o δ A (.str a)) (he : Ev X e δ A (.str b)) (hb : (b.length == 0) = false) (hz : a.length ≤ sizeLine) (hs : starEach [e] X.env = [(false, eval e X.env)] := by rfl) (hbase : attributeBase o "partition" X.env (eval o X.env) = eval o X.env := by rfl) (hline : (apos.endLine == pos.line) = true := by rfl) :
    Ev X (.Call (.Attribute o "partition" apos) [e] [] pos) δ A (.tup [.str (Txt.partition a b).1, .str (Txt.partition a b).2.1, .str (Txt.partition a b).2.2]) := fun A1 k Q q σ H sl r =>
  runE.of (pe_partition pe_run pe_run hs hbase hline) (runE.mono (ho A1 k (fun d A2 => d = .str a ∧ A2 = A1) ⟨rfl, rfl⟩ σ H sl r) fun vx H1 ⟨d, A2, k1, rx, hr, e1, e2⟩ => by
    subst e1 e2
    cases rx
    refine ⟨⟨a, rfl⟩, runE.mono (he A2 k (fun d A3 => d = .str b ∧ A3 = A2) ⟨rfl, rfl⟩ σ H1 (sl.keep k1) hr) fun vy H2 ⟨d, A3, k2, ry, hr2, e1, e2⟩ => ?_⟩
    subst e1 e2
    cases ry
    refine ⟨a, b, rfl, rfl, hb, hz, fun p hp => ?_⟩
    have ex := ex_upd (o := .tup [.str (Txt.partition a b).1, .str (Txt.partition a b).2.1, .str (Txt.partition a b).2.2]) hp
    have kk : Kp X.K H2 (upd H2 p (.tup [.str (Txt.partition a b).1, .str (Txt.partition a b).2.1, .str (Txt.partition a b).2.2])) := kp_ex ex
    exact ⟨_, A3, (k1.trans k2).trans kk, Rp.tups (.of upd_same) (.cons .str (.cons .str (.cons .str .nil))), hr2.stay kk ex, q⟩)
end TL
/-! an own iterator and list(o) while an exception is handled -/
namespace TL
open PySem PySem.Spec PyProof.Rows
open L2 hiding XE Takes CX MkP PMk ps_raise mk_of ps_try_as ps_try_many pmk_own passAt takes_of passes_call XE.new XE.of_call XE.leave Takes.imp Sky.land
open L2N hiding St
open L2H hiding St
open HotX
section
variable {prog : Program} {w : World} {A : Around} {E : Value → Shared → Prop} {s : Shared}
/-- a list's iterator at its end, while an exception is handled -/
theorem next_list_end_hot {it l x1 : Addr} {i : Nat} {items : Array Value} {Q : Option Value → Shared → Prop} (hot : HotAt A.in1 x1 s.heap) (nx : x1 ≠ it) (hit : s.heap.IsListIter it l i) (hl : s.heap.IsList l items) (hx : items[i]? = none)
    (hQ : ∀ h', (∀ b o, s.heap.get? b = some o → b ≠ it → h'.get? b = some o) → Q none { s with heap := h' }) : wpAny (model prog w) A (pyNext (.ref it)) Q E s := by
  obtain ⟨o, ho, hc, hd⟩ := id hit
  obtain ⟨ol, hol, _, nl, hdl⟩ := hl
  obtain ⟨hh, o1, vs1, h1, d1, c1⟩ := hot
  unfold pyNext
  refine wpAny_bind (wpAny_attempt (wpAny_callSpecial?_slot (name := Str.ofString "__next__") hit.typeIs slot_listiter_next
    (wpAny_call_entry slot_listiter_next hit.typeIs entry_listiter_next ?_ (args_listiter_next _))))
  show wpAny _ _ (field (.ref it) 0 >>= _) _ _ s
  refine wpAny_bind (wpAny_field ho hd (x := .ref l) rfl ?_)
  show wpAny _ _ (if (Value.ref l == Value.none) = true then _ else _) _ _ s
  rw [if_neg (show ¬ ((Value.ref l == Value.none) = true) from Bool.false_ne_true)]
  show wpAny _ _ (field (.ref it) 1 >>= _) _ _ s
  refine wpAny_bind (wpAny_field ho hd (x := .int i 0) rfl ?_)
  show wpAny _ _ (seqItems? (.ref l) >>= _) _ _ s
  refine wpAny_bind (wpAny_seqItems hol hdl ?_)
  simp only [Int.toNat_natCast, hx]
  refine wpAny_bind (wpAny_rule (wpAny_bind (wpAny_setField ho hd (by simp) ?_)))
  show wpAny _ _ (newExc (.type "StopIteration") [] >>= _) _ _ _
  refine wpAny_bind ?_
  simp only [newExc, newTuple]
  refine wpAny_bind (wpAny_newObj_type ?_ (by size_fits))
  refine wpAny_bind (m := firstArgMember _ _) (wpAny_of_eq (a := Value.none) (by first | rfl | (simp only [firstArgMember]; rfl)) ?_)
  refine wpAny_newObj_type ?_ (by size_fits)
  have g1 : ∀ b u, s.heap.get? b = some u → b ≠ it → (s.heap.update it (Obj.mapFields (·.setIfInBounds 0 .none))).get? b = some u := fun b u e n => (Heap.get?_update_other _ _ (fun z => n z.symm)).trans e
  have e1 := g1 _ _ h1 nx
  refine raiseNew_hot ⟨hh, o1, vs1, Heap.get?_push_of_some _ (Heap.get?_push_of_some _ e1), d1, c1⟩ (Nat.ne_of_lt (Heap.lt_size (Heap.get?_push_of_some _ e1))) (Heap.get?_push_size _ rfl) rfl (by first | (simp; done) | (simp; omega) | (show 2 < 6; decide)) ?_
  refine wpAny_bind (wpAny_isInstance (T := "StopIteration") (b := true) ⟨_, Heap.get?_update_self _ (Heap.get?_push_size _ rfl) rfl, rfl⟩ isSubtype_stop ?_)
  refine wpAny_pure (hQ _ fun b u e n => ?_)
  have e2 := g1 _ _ e n
  exact (Heap.get?_update_other _ _ (Nat.ne_of_gt (Heap.lt_size (Heap.get?_push_of_some _ e2)))).trans (Heap.get?_push_of_some _ (Heap.get?_push_of_some _ e2))
end
section
variable {X : Cx} {A : AH} {Q : TQ} {k : Nat} {f C p l : Addr} {pins : List (Addr × Obj)} {σ : L2.St} {H : Hp} {s : Shared} {fld : Str}
theorem listEnd_hot (c : HotC X) : ListEnd X X.A.in1.in1 := fun {it l i items pins σ H s Q E} I hit hl hx q => by
  obtain ⟨x1, hot⟩ := c.at I
  have nx : x1 ≠ it := fun z => by
    obtain ⟨_, o1, vs1, h1, d1, c1⟩ := hot
    obtain ⟨o, ho, _, hd⟩ := hit
    rw [z, ho] at h1
    cases h1
    rw [hd] at d1
    cases d1
    exact absurd c1 (by simp)
  exact next_list_end_hot (A := X.A.in1.in1) hot nx hit hl hx fun h' eb => q h' fun b o n e => eb b o e n
/-! ### __iter__: return iter(self.fld); __len__: return len(self.fld) -/
def ItFnH (P : Program) (w : World) (K : PySem.W.Frag) (mg : Str → Option Value) (base : Heap) (k : Nat) (f C : Addr) (fld : Str) : Prop :=
  ∀ (A : Around) (outer : List Env) (s : Shared) (H : Hp) (a dx l : Addr) (gs : List (Str × V)) (zs : List V) (p : Addr × Obj), RoomH k A → Hot1 A p → PinOk outer H s p → Env0 P w K mg base A outer s H → H a = some (.ins C dx gs) → gs.lookup fld = some (.ref l) → H l = some (.lst zs) →
    codeAny (model P w) A (.call (.ref f) ⟨[.ref a], []⟩) (CR (L2N.CX P w) outer P w H s (fun v H' => ∃ it, v = .ref it ∧ H it = none ∧ s.heap.objs.size ≤ it ∧ H' = upd H it (ItO l it 0)) fun _ _ _ => False) s
def LenFnH (P : Program) (w : World) (K : PySem.W.Frag) (mg : Str → Option Value) (base : Heap) (k : Nat) (f C : Addr) (fld : Str) : Prop :=
  ∀ (A : Around) (outer : List Env) (s : Shared) (H : Hp) (a dx l : Addr) (gs : List (Str × V)) (zs : List V) (p : Addr × Obj), RoomH k A → Hot1 A p → PinOk outer H s p → Env0 P w K mg base A outer s H → H a = some (.ins C dx gs) → gs.lookup fld = some (.ref l) → H l = some (.lst zs) →
    codeAny (model P w) A (.call (.ref f) ⟨[.ref a], []⟩) (CR (L2N.CX P w) outer P w H s (fun v H' => v = .int (zs.length : Nat) ∧ H' = H) fun _ _ _ => False) s
section
variable {P : Program} {w : World} {K : PySem.W.Frag} {mg : Str → Option Value} {base : Heap} {name qual : Str} {params : Arguments} {body : List Stmt} {scope : Scope} {fd : FuncData} {N : List Str} {p1 p2 p3 p4 p5 : Pos}
theorem fn_itH (Fd : FunD K name qual params body scope [] [] f fd) (S : FnScope N ["self"] scope) (hb : Binds K fd ["self"] []) (hbody : body = [.Return (some (.Call (.Name "iter" p1) [.Attribute (.Name "self" p2) fld p3] [] p4)) p5])
    (hN : N[0]? = some ("self" : Str)) (hg : scope.names.lookup ("iter" : Str) = some .globalImplicit) (hm : mg "iter" = none) (c : Cls K C) (n : NoAttr K C fld) : ItFnH P w K mg base (k + 1) f C fld := by
  obtain ⟨oc, od, dV, kV, doc, pm, an, cdv, ct, osl, rfl, lk, hcd, _, _⟩ := Fd.ex
  intro A outer s H q dx l gs zs p hr hot hpin e0 ha hl hz
  have KX : K.In s.heap := e0.mod.kin.keeps fun b o e => (e0.bs b o e).1
  have lim : s.heap.NoLimit := e0.mod.nolimit.keeps fun b o e => (e0.bs b o e).1
  have kinds : ∀ y ∈ (["self"] : List Str).zip [Value.ref q], scope.names.lookup y.1 = some .local ∨ (scope.names.lookup y.1 = some .cell ∧ ((cellsFrom (s.heap.objs.size + 1) scope.names []).lookup y.1).isSome = true) := fun y hy => by
    rcases S.par y.1 (List.of_mem_zip hy).1 with z | z
    · exact .inl z
    · exact .inr ⟨z, PySem.W.cellsFrom_some _ _ _ (.inl z)⟩
  have bd := hb s [.ref q] KX rfl
  refine codeAny_call_function hr.depth (KX _ _ lk) rfl S.co S.gen rfl (PySem.W.codeRec_of KX hcd) (bd _ _ _ _ ?_)
  refine wpAny_newFunctionEnv_cells S.kind kinds fun env he s1 xx => ?_
  subst he
  refine ⟨lim.keeps xx.toInCall.keep, codeAny_func ?_⟩
  have r1 : Vals [V.ref q] [Value.ref q] := .cons rfl .nil
  generalize hX : cxH (L2N.CX P w) P w K mg base N qual scope f cdv A outer s H (fun _ _ _ => False) p = X
  have I : Inv X [] (L2.start N [.ref q]) H s1 := hX ▸ inv_startH S hpin e0 rfl r1 xx
  subst hbody
  have vis : Vis scope "self" := (S.par "self" (List.Mem.head _)).elim (fun z => .inl z) fun z => .inr (.inl z)
  have gl : Gl X "iter" := by rw [← hX]; exact hg
  have pv : PE X (.Name "self" p2) (tVar 0) := by rw [← hX]; exact pe_var hN vis
  have pf : PE X (.Attribute (.Name "self" p2) fld p3) (tFld X.K (tVar 0) fld) := pe_fld pv rfl
  have pa : PA X [.Attribute (.Name "self" p2) fld p3] (tCons (tFld X.K (tVar 0) fld) tNil) := pa_cons pf pa_nil
  have pc : PE X (.Call (.Name "iter" p1) [.Attribute (.Name "self" p2) fld p3] [] p4) _ := pe_callB cr_itN gl (by rw [← hX]; exact hm) (by rfl) pa
  have body := pss_one (ps_ret (pos := p5) pc)
  have eK : X.K = K := by rw [← hX]; rfl
  subst hX
  refine wpAny_mono (body.run [] s1 (L2.start N [.ref q]) H { nx := fun _ _ => False, rt := fun v H' => ∃ it, v = .ref it ∧ H it = none ∧ s.heap.objs.size ≤ it ∧ H' = upd H it (ItO l it 0) } I ?_) (fun fl s' hs => ?_) fun e s' hs => hs
  · exact ⟨.ref q, rfl, q, C, dx, gs, .ref l, rfl, ha, c, n, hl, l, zs, rfl, .of hz, fun it hn hs => ⟨it, rfl, hn, hs, rfl⟩⟩
  · cases fl with
    | ret u =>
      obtain ⟨v, σ', H', J, rv, q⟩ := hs
      exact ⟨v, H', J.os, J.bare, J.base, J.hok, rv, q⟩
    | next => obtain ⟨_, _, _, q⟩ := hs; exact q.elim
    | brk => obtain ⟨_, _, _, q⟩ := hs; exact q.elim
    | cont => obtain ⟨_, _, _, q⟩ := hs; exact q.elim
theorem fn_lenH (Fd : FunD K name qual params body scope [] [] f fd) (S : FnScope N ["self"] scope) (hb : Binds K fd ["self"] []) (hbody : body = [.Return (some (.Call (.Name "len" p1) [.Attribute (.Name "self" p2) fld p3] [] p4)) p5])
    (hN : N[0]? = some ("self" : Str)) (hg : scope.names.lookup ("len" : Str) = some .globalImplicit) (hm : mg "len" = none) (c : Cls K C) (n : NoAttr K C fld) : LenFnH P w K mg base (k + 1) f C fld := by
  obtain ⟨oc, od, dV, kV, doc, pm, an, cdv, ct, osl, rfl, lk, hcd, _, _⟩ := Fd.ex
  intro A outer s H q dx l gs zs p hr hot hpin e0 ha hl hz
  have KX : K.In s.heap := e0.mod.kin.keeps fun b o e => (e0.bs b o e).1
  have lim : s.heap.NoLimit := e0.mod.nolimit.keeps fun b o e => (e0.bs b o e).1
  have kinds : ∀ y ∈ (["self"] : List Str).zip [Value.ref q], scope.names.lookup y.1 = some .local ∨ (scope.names.lookup y.1 = some .cell ∧ ((cellsFrom (s.heap.objs.size + 1) scope.names []).lookup y.1).isSome = true) := fun y hy => by
    rcases S.par y.1 (List.of_mem_zip hy).1 with z | z
    · exact .inl z
    · exact .inr ⟨z, PySem.W.cellsFrom_some _ _ _ (.inl z)⟩
  have bd := hb s [.ref q] KX rfl
  refine codeAny_call_function hr.depth (KX _ _ lk) rfl S.co S.gen rfl (PySem.W.codeRec_of KX hcd) (bd _ _ _ _ ?_)
  refine wpAny_newFunctionEnv_cells S.kind kinds fun env he s1 xx => ?_
  subst he
  refine ⟨lim.keeps xx.toInCall.keep, codeAny_func ?_⟩
  have r1 : Vals [V.ref q] [Value.ref q] := .cons rfl .nil
  generalize hX : cxH (L2N.CX P w) P w K mg base N qual scope f cdv A outer s H (fun _ _ _ => False) p = X
  have I : Inv X [] (L2.start N [.ref q]) H s1 := hX ▸ inv_startH S hpin e0 rfl r1 xx
  subst hbody
  have vis : Vis scope "self" := (S.par "self" (List.Mem.head _)).elim (fun z => .inl z) fun z => .inr (.inl z)
  have gl : Gl X "len" := by rw [← hX]; exact hg
  have pv : PE X (.Name "self" p2) (tVar 0) := by rw [← hX]; exact pe_var hN vis
  have pf : PE X (.Attribute (.Name "self" p2) fld p3) (tFld X.K (tVar 0) fld) := pe_fld pv rfl
  have pa : PA X [.Attribute (.Name "self" p2) fld p3] (tCons (tFld X.K (tVar 0) fld) tNil) := pa_cons pf pa_nil
  have pc : PE X (.Call (.Name "len" p1) [.Attribute (.Name "self" p2) fld p3] [] p4) _ := pe_callB call_len_seq gl (by rw [← hX]; exact hm) (by rfl) pa
  have body := pss_one (ps_ret (pos := p5) pc)
  subst hX
  refine wpAny_mono (body.run [] s1 (L2.start N [.ref q]) H { nx := fun _ _ => False, rt := fun v H' => v = .int (zs.length : Nat) ∧ H' = H } I ?_) (fun fl s' hs => ?_) fun e s' hs => hs
  · exact ⟨.ref q, rfl, q, C, dx, gs, .ref l, rfl, ha, c, n, hl, l, zs, rfl, .inl (.of hz), rfl, rfl⟩
  · cases fl with
    | ret u =>
      obtain ⟨v, σ', H', J, rv, q⟩ := hs
      exact ⟨v, H', J.os, J.bare, J.base, J.hok, rv, q⟩
    | next => obtain ⟨_, _, _, q⟩ := hs; exact q.elim
    | brk => obtain ⟨_, _, _, q⟩ := hs; exact q.elim
    | cont => obtain ⟨_, _, _, q⟩ := hs; exact q.elim
end
theorem pin_hot {pp : Addr × Obj} (I : Inv X pins σ H s) (hp : pp ∈ X.pn) : PinOk X.stack H s pp :=
  have P1 := I.pin pp (List.mem_append_left _ hp)
  ⟨P1.1, P1.2.1, fun hm => (List.mem_cons.mp (I.stkSub pp.1 hm)).elim P1.2.2.1 P1.2.2.2.1, P1.2.2.2.2⟩
theorem iterRun_hot (F : ItFnH X.prog X.w X.K X.mg X.base k f C fld) (hr : RoomH (k + 2) X.A) (c : HotC X) : IterRun X X.A.in1.in1 p f C fld l := fun pins σ H s dx gs zs Q I ha hl hz q => by
  obtain ⟨pp, hot, hp⟩ := c
  have e1 := I.env0
  have e0 : Env0 X.prog X.w X.K X.mg X.base X.A.in1.in1 X.stack s H := ⟨e1.frames, e1.mod, e1.bs, e1.bsz, e1.funs, e1.frf, e1.hok, e1.bare⟩
  have hr2 : RoomH k X.A.in1.in1 := ⟨by have := hr.dp; show X.A.depth + 3 * k + 5 < _; omega, by have := hr.un; show X.A.units + 1 + 1 + 16 * k + 200 < _; omega⟩
  refine wpAny_call (codeAny_mono (F X.A.in1.in1 X.stack s H p dx l gs zs pp hr2 ⟨hot.1, hot.2⟩ (pin_hot I hp) e0 ha hl hz) fun r s' hq => ?_)
  cases r with
  | error e =>
    obtain ⟨_, _, _, _, _, _, _, _, _, _, _, _, z⟩ := hq
    exact z.elim
  | ok fl =>
    cases fl with
    | ret u =>
      obtain ⟨v, H', os, bare, un, hok, rv, it, ev, hn, hs, eH⟩ := hq
      subst ev eH
      obtain rfl := vref rv
      obtain ⟨hh, g, dd, t, os'⟩ := s'
      obtain rfl : os' = s.os := os
      have un' : Un (frs X.stack) [] H H s.heap hh := ⟨un.keep, un.slot, fun _ _ _ n _ => n, un.there, fun _ _ e => e, fun _ _ _ e => e, fun b ps e => ⟨#[], by rw [e]; simp⟩⟩
      have own : ∀ b a, upd H it (ItO l it 0) b = some (.own a) → H b = some (.own a) := fun b a e => by
        by_cases z : b = it
        · subst z; rw [upd_same] at e; cases e
        · rw [upd_ne z] at e; exact e
      have tups : ∀ b xs, upd H it (ItO l it 0) b = some (.tup xs) → H b = some (.tup xs) := fun b a e => by
        by_cases z : b = it
        · subst z; rw [upd_same] at e; cases e
        · rw [upd_ne z] at e; exact e
      have hok' : HOk X.prog X.w H hh := fun b u e => (hok b u (by rw [upd_ne (ne_of_none e hn)]; exact e)).stay (fun _ _ _ q => q) (fun b => own b _) tups
      have hit : hh.get? it = some (GNX.itObj l 0) := (hok it _ upd_same).1
      exact q it _ (I.call (h' := hh) (g' := g) (d' := dd) (t' := t) (ch := []) un' hok' bare (fun b z => absurd z (by simp))) ⟨_, hit, rfl, rfl⟩ (I.fpOk hs hn)
    | next => exact False.elim hq
    | brk => exact False.elim hq
    | cont => exact False.elim hq
/-- len(o) ahead of list(o), while an exception is handled -/
theorem hint_lenH {q : Addr} {xs : List TL.D} (hm : Meth X.K C "__len__" f) (F : LenFnH X.prog X.w X.K X.mg X.base k f C fld) (hr : RoomH (k + 4) X.A) (c : HotC X) (hf : FldO X.K A p C fld l) (ho : RdO A l xs) (hz : xs.length ≤ sizeLine) (hq : A q = some (.prim (.lst [])))
    (h : Q (.ref q) (updA A q (.prim (.lst xs)))) : HintT X A p C q l xs Q := by
  intro A1 pins σ H s QQ hfr hu hdp hh I hR hQ
  obtain ⟨dx, gs, ha, hlk⟩ := hf H hR
  obtain ⟨zs, hl, rl⟩ := ho.at_ hR
  obtain ⟨mA, J, _⟩ := ins_get I.hok ha
  obtain ⟨od, J, _⟩ := J.look
  obtain ⟨m, hF⟩ := I.fr
  obtain ⟨pp, hot, hp⟩ := c
  have e1 := I.env0
  have e0 : Env0 X.prog X.w X.K X.mg X.base A1.in1 X.stack s H := ⟨hfr.trans e1.frames, e1.mod, e1.bs, e1.bsz, e1.funs, e1.frf, e1.hok, e1.bare⟩
  have hr2 : RoomH k A1.in1 := ⟨by have := hr.dp; show A1.depth + 3 * k + 5 < _; omega, by have := hr.un; show A1.units + 1 + 16 * k + 200 < _; omega⟩
  unfold Builtin.List.listLengthHint
  refine wpAny_bind (wpAny_bind (J.type.here ((PySem.W.looks_findIn I.kIn hm.at_).here ?_)))
  refine PySem.W.KFB.if_not rfl ?_
  refine wpAny_bind (wpAny_rule (wpAny_bind (wpAny_attempt (PySem.W.len_K hF I.ok.mod.kin J hm.at_ hm.fn (thn (Q := EP X pins σ fun v H' => v = .int (zs.length : Nat) ∧ H' = H) (wpAny_call (codeAny_mono (F A1.in1 X.stack s H p dx l gs zs pp hr2 ⟨hh.trans hot.1, hot.2⟩ (pin_hot I hp) e0 ha hlk hl) fun r s' hq => ?_)) fun u s1 ⟨v, H1, I1, r1, ev, eH⟩ => ?_)))))
  · cases r with
    | error e =>
      obtain ⟨_, _, _, _, _, _, _, _, _, _, _, _, z⟩ := hq
      exact z.elim
    | ok fl =>
      cases fl with
      | ret u => exact I.after hq
      | next => exact False.elim hq
      | brk => exact False.elim hq
      | cont => exact False.elim hq
  subst ev eH
  obtain ⟨t, rfl⟩ := r1
  have hlz : zs.length = xs.length := Paired.length rl
  have hs' := sizeLine_eq
  refine ⟨⟨by omega, by omega⟩, ?_⟩
  have nl : Builtin.List.listTooLong ((zs.length : Int).toNat) = false := notLongL (by rw [Int.toNat_natCast]; omega)
  show wpAny _ _ (if Builtin.List.listTooLong ((zs.length : Int).toNat) = true then _ else _) _ _ _
  rw [nl]
  exact wpAny_pure (hQ _ _ H1 A (I1.tok _) (Kp.refl _) hR hq ho h)
/-- list(o) while an exception is handled -/
theorem caw_listH {fi fl : Addr} {xs : List TL.D} (hm : Meth X.K C "__iter__" fi) (F : ItFnH X.prog X.w X.K X.mg X.base k fi C fld) (hl : Meth X.K C "__len__" fl) (FL : LenFnH X.prog X.w X.K X.mg X.base k fl C fld) (hr : RoomH (k + 4) X.A) (c : HotC X) (hf : FldO X.K A p C fld l) (ho : RdO A l xs) (hz : xs.length ≤ sizeLine)
    (h : ∀ q, A q = none → Q (.ref q) (updA A q (.prim (.lst xs)))) : CaW X (.type "list") [.ref p] A Q :=
  caw_listOG hm (iterRun_hot F (hr.mono (by omega)) c) (listEnd_hot c) hf ho hz fun q hq =>
    hint_lenH hl FL hr c (hf.sub (Sub.upd (Sub.refl _) hq)) (ho.sub (Sub.upd (Sub.refl _) hq)) hz updA_same (by rw [updA_updA]; exact h q hq)
/-- an except suite bears its exception -/
theorem hot_suite {a : Addr} {ox : Obj} {cls : Value} {o : Option Addr} {pn : List (Addr × Obj)} (hz : Zn cls o ox) (hf : ∃ vs, ox.data = .fields vs) : HotC (X.suite a ((a, ox) :: pn)) := by
  obtain ⟨vs, e⟩ := hf
  exact ⟨(a, ox), ⟨rfl, vs, e, hz.2.2 vs e⟩, List.mem_cons_self⟩
end
/-! ### names and calls in an except suite -/
structure BS (X : Cx) (N : List Str) (sc : Scope) : Prop where
  n : X.N = N
  nd : X.N.Nodup
  vis : ∀ x, Vis sc x → Vis X.env.scope x
  glo : ∀ x, sc.names.lookup x = some .globalImplicit → X.env.kindOf x = some .globalImplicit
section
variable {X : Cx} {N : List Str} {sc : Scope} {δ : Ds} {A : AH} {Q : TQ} {e o : Expr} {es : List Expr} {d z : TL.D} {pos p_ : Pos}
theorem BC.suite {a : Addr} {pn : List (Addr × Obj)} (B : BC X N sc) : BS (X.suite a pn) N sc := ⟨B.n, B.nd, B.vis, B.glo⟩
theorem BS.nm {s : Str} {i : Nat} (B : BS X N sc) (hN : N[i]? = some s) (h : δ[i]? = some (some d)) (hv : Vis sc s) (hd : (s == ("__debug__" : Str)) = false := by decide) (hcd : (s == ("__classdict__" : Str)) = false := by decide) : Ev X (.Name s pos) δ A d :=
  ev_name (by rw [B.n]; exact hN) h (B.vis _ hv) hd hcd
theorem BS.gl {s : Str} (B : BS X N sc) (h : sc.names.lookup s = some .globalImplicit) : Gl X s := B.glo s h
theorem BS.callT {x : Str} {T : String} (B : BS X N sc) (hg : sc.names.lookup x = some .globalImplicit) (hm : X.mg x = none) (hv : bootBuiltins x = some (.type T)) (h : WPA X (e :: es) δ A fun ds A1 => CaW X (.type T) ds A1 Q) (hn : x ≠ "__name__" := by decide) (hdb : (x == ("__debug__" : Str)) = false := by decide)
    (he : starEach (e :: es) X.env = (false, eval e X.env) :: starEach es X.env := by rfl) (hpl : (backTo pos (starEach es X.env)).any (·.1) = false := by rfl) : WPE X (.Call (.Name x p_) (e :: es) [] pos) δ A Q := fun σ H s r =>
  runE.of (pe_callTy cr_w (B.gl hg) hm hv pa_run hn hdb he hpl) (runA.mono (h σ H s r) fun vs H1 ⟨ds, A1, k1, rps, hr, q⟩ => ⟨ds, A1, Q, hr, rps, q, fun v H' d A' k' rp hr' q' => ⟨d, A', k1.trans k', rp, hr', q'⟩⟩)
theorem BS.eB {x : Str} {id : String} {ds : List TL.D} (B : BS X N sc) (hg : sc.names.lookup x = some .globalImplicit) (hm : X.mg x = none) (hv : bootBuiltins x = some (.builtin id)) (h : EvA X (e :: es) δ A ds) (q : CaV X (.builtin id) ds A z) (hn : x ≠ "__name__" := by decide) (hdb : (x == ("__debug__" : Str)) = false := by decide)
    (he : starEach (e :: es) X.env = (false, eval e X.env) :: starEach es X.env := by rfl) (hpl : (backTo pos (starEach es X.env)).any (·.1) = false := by rfl) : Ev X (.Call (.Name x p_) (e :: es) [] pos) δ A z := fun A1 k Q qq => fun σ H s r =>
  runE.of (pe_callB cr_w (B.gl hg) hm hv pa_run hn hdb he hpl) (runA.mono (h A1 k _ (q A1 k Q qq) σ H s r) fun vs H1 ⟨ds, A1, k1, rps, hr, q⟩ => ⟨ds, A1, Q, hr, rps, q, fun v H' d A' k' rp hr' q' => ⟨d, A', k1.trans k', rp, hr', q'⟩⟩)
/-- list(o), o an own object, while an exception is handled -/
theorem evn_listH {k : Nat} {C p l fi fl : Addr} {fld : Str} {xs : List TL.D} (B : BS X N sc) (hg : sc.names.lookup ("list" : Str) = some .globalImplicit) (hmg : X.mg "list" = none) (hm : Meth X.K C "__iter__" fi) (F : ItFnH X.prog X.w X.K X.mg X.base k fi C fld) (hl : Meth X.K C "__len__" fl) (FL : LenFnH X.prog X.w X.K X.mg X.base k fl C fld) (hr : RoomH (k + 4) X.A) (c : HotC X)
    (he : Ev X o δ A (.ref p)) (hf : FldO X.K A p C fld l) (ho : RdO A l xs) (hz : xs.length ≤ sizeLine) (hs : starEach [o] X.env = (false, eval o X.env) :: starEach [] X.env := by rfl) : EvN X (.Call (.Name "list" p_) [o] [] pos) δ A (.lst xs) := fun A1 k Q q =>
  B.callT hg hmg bt_list (EvA.wp (eva_cons (he.sub k) eva_nil hs) (caw_listH hm F hl FL hr c (hf.sub k) (ho.sub k) hz q)) (he := hs)
end
end TL
/-! law k03: _law_grown, _law_refused, _law_late -/
namespace TL
open PySem PySem.Spec PyProof.Rows L2
variable {P : Program} {w : World} {K : PySem.W.Frag} {mg : Str → Option Value} {base : Heap} {k : Nat}
abbrev tpGrownK (K : PySem.W.Frag) : TSp := fun ds A Q E => ∃ x rest z, ds = x :: (rest ++ [z]) ∧ rest.length ≤ sizeLine ∧ tpGrown K [x, z, .tup rest] A Q E
/-- grown, called with people -/
structure GrF (P : Program) (w : World) (K : PySem.W.Frag) (mg : Str → Option Value) (base : Heap) : Prop where
  fr : Free mg
  tup : mg "tuple" = none
  G : WebK K mg
  m : Meth K (cW K) "grown" (wm K "grown")
  F : FnTK P w K mg base 7 (wm K "grown") ["people"] (tpGrownK K)
theorem goodTo.sz {ns fs : List Str} (h : goodTo (ns ++ fs)) : ∀ n ∈ fs, n.length ≤ sizeLine := fun n hn => Nat.le_trans (isName_len (h.2.2 n (List.mem_append_right _ hn))).2 (by decide)
/-- who is first to be told of among the names -/
theorem goodTo.noBad {ns fs pre post : List Str} {n : Str} (h : goodTo (ns ++ fs)) (e : fs = pre ++ n :: post) : isName n = true ∧ n ∉ ns ++ pre ∧ (ns ++ pre).length < 24 := by
  subst e
  rw [← List.append_assoc] at h
  obtain ⟨nd, hl, hn⟩ := h
  rw [List.nodup_append] at nd
  rw [List.length_append] at hl
  exact ⟨hn n (by simp), fun z => nd.2.2 n z n List.mem_cons_self rfl, by simp only [List.length_cons] at hl; omega⟩
theorem grown_ok {K : PySem.W.Frag} {A : AH} {w wl : Addr} {W : WebD} {ns fs : List Str} {ts tl : List (Str × Str)} {Q : TQ} {E : TXQ} (hw : A w = some (.abs (isWeb (cW K) wl w W))) (gW : GW W ns ts) (gt : goodTo (ns ++ fs)) (htl : ∀ t ∈ tl, t.1 ∈ ns ++ fs ∧ t.2 ∈ ns ++ fs) (n5 : tl.length ≤ sizeLine)
    (q : ∀ V q lq, GW V (ns ++ fs) (ts ++ tl) → A q = none → A lq = none → Q (.ref q) (updA A q (.abs (isWeb (cW K) lq q V)))) : tpGrownK K (.ref w :: (tl.map pr ++ [.tup (fs.map .str)])) A Q E :=
  ⟨.ref w, tl.map pr, .tup (fs.map .str), rfl, by rw [List.length_map]; exact n5, w, wl, W, ns, ts, fs, tl, rfl, hw, gW, gt.sz, fun _ _ => q,
    fun pre n post e _ => (by obtain ⟨h1, h2, h3⟩ := gt.noBad e; exact ⟨fun z => (by rw [h1] at z; cases z), fun _ z => (h2 z).elim, fun _ _ z => (by omega)⟩),
    fun _ pre t post e _ => (by have := htl t (by rw [e]; simp); exact ⟨fun z => (z this.1).elim, fun _ z => (z this.2).elim⟩)⟩
def tpLGrown (K : PySem.W.Frag) : TSp := fun ds A Q E => ∃ w wl W t f, ∃ (ns : List Str) (ts : List (Str × Str)) (fs : List Str) (tl : List (Str × Str)), ds = [.ref w, .ref t, .ref f] ∧ A w = some (.abs (isWeb (cW K) wl w W)) ∧ GW W ns ts ∧ A t = some (.prim (.lst (tl.map pr))) ∧ A f = some (.prim (.lst (fs.map .str))) ∧ goodTo (ns ++ fs) ∧ (∀ t ∈ tl, t.1 ∈ ns ++ fs ∧ t.2 ∈ ns ++ fs) ∧ tl.length ≤ 5 ∧
  ∀ V q lq, GW V (ns ++ fs) (ts ++ tl) → A q = none → A lq = none → Q (.ref q) (updA A q (.abs (isWeb (cW K) lq q V)))
theorem sc_lgrown : FnScope N_law_grown ["_law_web_here", "_law_ties_here", "_law_fresh"] (defScope s_law_grown) := ⟨rfl, rfl, rfl, by decide +kernel, rfl, by decide +kernel, by decide +kernel⟩
theorem body_lgrown (LF : GrF P w K mg base) : BodyT P w K mg base N_law_grown (defScope s_law_grown) 7 (defBody s_law_grown) (tpLGrown K) := by
  intro X bd ds A Q ET hx ⟨w, wl, W, t, f, ns, ts, fs, tl, e, hw, gW, ht, hf, gt, htl, n5, qq⟩
  obtain ⟨rfl, rfl, rfl, rfl, rfl, B, room, _, _⟩ := bd
  subst e
  have uI : X.A.units + PySem.W.Datum.depth Int < cLine := by have := room.units; show X.A.units + 0 < _; omega
  have tst : ∀ {j : Int} {kk : Nat} {p1 p2 p3 p4 p5 : Pos} {hs : starEach [Expr.Name "_law_ties_here" p1] X.env = (false, eval (Expr.Name "_law_ties_here" p1) X.env) :: starEach [] X.env}, EvT X (.Compare (.Call (.Name "len" p2) [.Name "_law_ties_here" p1] [] p5) [.Eq] [.Constant (.int j) kk p3] p4) (startD N_law_grown [.ref w, .ref t, .ref f]) A (decide ((tl.length : Int) = j)) := fun {j kk p1 p2 p3 p4 p5 hs} =>
    et_cmp (Ev.to (B.toBC.eB rfl LF.fr.len bt_len (eva_cons (B.nm (i := 1) rfl rfl (.inl rfl)) eva_nil hs) (cav_len (.inl ht)) (he := hs)) (by rw [List.length_map]; rfl)) ev_int (opv_eq (α := Int) uI) rfl
  have fin : tpGrownK X.K (.ref w :: (tl.map pr ++ [.tup (fs.map .str)])) A (RV Q) NoX := grown_ok hw gW gt htl (Nat.le_trans n5 (by decide)) fun V q lq gV h1 h2 => RV.mk (qq V q lq gV h1 h2)
  have ins : InsT X.K A w (cW X.K) "grown" := web_insT hw fun _ _ _ => rfl
  have tp : ∀ {p1 p2 p3 : Pos} {hs : starEach [Expr.Name "_law_fresh" p1] X.env = (false, eval (Expr.Name "_law_fresh" p1) X.env) :: starEach [] X.env}, Ev X (.Call (.Name "tuple" p2) [.Name "_law_fresh" p1] [] p3) (startD N_law_grown [.ref w, .ref t, .ref f]) A (.tup (fs.map .str)) := fun {p1 p2 p3 hs} => B.toBC.etup rfl LF.tup (B.nm (i := 2) rfl rfl (.inl rfl)) (.inl hf) hs
  rcases tl with _ | ⟨a, _ | ⟨b, _ | ⟨c, _ | ⟨d, _ | ⟨g, _ | ⟨x, xr⟩⟩⟩⟩⟩⟩
  · refine wpb_cons (wps_ifE (EvT.to (tst (hs := rfl)) (d := true) (by simp)) (fun _ => ?_) fun z => Bool.noConfusion z)
    exact wpb_cons (wps_ret (wpe_methK0 (ET := NoX) LF.G.cls LF.m LF.F (room.mono (by decide)) pass0 (Ev.wp (B.nm (i := 0) rfl rfl (.inl rfl)) ⟨w, rfl, ins, Ev.wp (tp (hs := rfl)) fin⟩)))
  · refine wpb_cons (wps_ifE (EvT.to (tst (hs := rfl)) (d := false) (by simp)) (fun z => Bool.noConfusion z) fun _ => wpb_nil ?_)
    refine wpb_cons (wps_ifE (EvT.to (tst (hs := rfl)) (d := true) (by simp)) (fun _ => ?_) fun z => Bool.noConfusion z)
    exact wpb_cons (wps_ret (wpe_methK1 (ET := NoX) LF.G.cls LF.m LF.F (room.mono (by decide)) pass0 (Ev.wp (B.nm (i := 0) rfl rfl (.inl rfl)) ⟨w, rfl, ins, EvA.wp (eva_cons (ev_ix (B.nm (i := 1) rfl rfl (.inl rfl)) ev_int (ixv_list (.inl ht) rfl)) eva_nil) (Ev.wp (tp (hs := rfl)) fin)⟩)))
  · refine wpb_cons (wps_ifE (EvT.to (tst (hs := rfl)) (d := false) (by simp)) (fun z => Bool.noConfusion z) fun _ => wpb_nil ?_)
    refine wpb_cons (wps_ifE (EvT.to (tst (hs := rfl)) (d := false) (by simp)) (fun z => Bool.noConfusion z) fun _ => wpb_nil ?_)
    refine wpb_cons (wps_ifE (EvT.to (tst (hs := rfl)) (d := true) (by simp)) (fun _ => ?_) fun z => Bool.noConfusion z)
    exact wpb_cons (wps_ret (wpe_methK1 (ET := NoX) LF.G.cls LF.m LF.F (room.mono (by decide)) pass0 (Ev.wp (B.nm (i := 0) rfl rfl (.inl rfl)) ⟨w, rfl, ins, EvA.wp (eva_cons (ev_ix (B.nm (i := 1) rfl rfl (.inl rfl)) ev_int (ixv_list (.inl ht) rfl)) (eva_cons (ev_ix (B.nm (i := 1) rfl rfl (.inl rfl)) ev_int (ixv_list (.inl ht) rfl)) eva_nil)) (Ev.wp (tp (hs := rfl)) fin)⟩)))
  · refine wpb_cons (wps_ifE (EvT.to (tst (hs := rfl)) (d := false) (by simp)) (fun z => Bool.noConfusion z) fun _ => wpb_nil ?_)
    refine wpb_cons (wps_ifE (EvT.to (tst (hs := rfl)) (d := false) (by simp)) (fun z => Bool.noConfusion z) fun _ => wpb_nil ?_)
    refine wpb_cons (wps_ifE (EvT.to (tst (hs := rfl)) (d := false) (by simp)) (fun z => Bool.noConfusion z) fun _ => wpb_nil ?_)
    refine wpb_cons (wps_ifE (EvT.to (tst (hs := rfl)) (d := true) (by simp)) (fun _ => ?_) fun z => Bool.noConfusion z)
    exact wpb_cons (wps_ret (wpe_methK1 (ET := NoX) LF.G.cls LF.m LF.F (room.mono (by decide)) pass0 (Ev.wp (B.nm (i := 0) rfl rfl (.inl rfl)) ⟨w, rfl, ins, EvA.wp (eva_cons (ev_ix (B.nm (i := 1) rfl rfl (.inl rfl)) ev_int (ixv_list (.inl ht) rfl)) (eva_cons (ev_ix (B.nm (i := 1) rfl rfl (.inl rfl)) ev_int (ixv_list (.inl ht) rfl)) (eva_cons (ev_ix (B.nm (i := 1) rfl rfl (.inl rfl)) ev_int (ixv_list (.inl ht) rfl)) eva_nil))) (Ev.wp (tp (hs := rfl)) fin)⟩)))
  · refine wpb_cons (wps_ifE (EvT.to (tst (hs := rfl)) (d := false) (by simp)) (fun z => Bool.noConfusion z) fun _ => wpb_nil ?_)
    refine wpb_cons (wps_ifE (EvT.to (tst (hs := rfl)) (d := false) (by simp)) (fun z => Bool.noConfusion z) fun _ => wpb_nil ?_)
    refine wpb_cons (wps_ifE (EvT.to (tst (hs := rfl)) (d := false) (by simp)) (fun z => Bool.noConfusion z) fun _ => wpb_nil ?_)
    refine wpb_cons (wps_ifE (EvT.to (tst (hs := rfl)) (d := false) (by simp)) (fun z => Bool.noConfusion z) fun _ => wpb_nil ?_)
    refine wpb_cons (wps_ifE (EvT.to (tst (hs := rfl)) (d := true) (by simp)) (fun _ => ?_) fun z => Bool.noConfusion z)
    exact wpb_cons (wps_ret (wpe_methK1 (ET := NoX) LF.G.cls LF.m LF.F (room.mono (by decide)) pass0 (Ev.wp (B.nm (i := 0) rfl rfl (.inl rfl)) ⟨w, rfl, ins, EvA.wp (eva_cons (ev_ix (B.nm (i := 1) rfl rfl (.inl rfl)) ev_int (ixv_list (.inl ht) rfl)) (eva_cons (ev_ix (B.nm (i := 1) rfl rfl (.inl rfl)) ev_int (ixv_list (.inl ht) rfl)) (eva_cons (ev_ix (B.nm (i := 1) rfl rfl (.inl rfl)) ev_int (ixv_list (.inl ht) rfl)) (eva_cons (ev_ix (B.nm (i := 1) rfl rfl (.inl rfl)) ev_int (ixv_list (.inl ht) rfl)) eva_nil)))) (Ev.wp (tp (hs := rfl)) fin)⟩)))
  · refine wpb_cons (wps_ifE (EvT.to (tst (hs := rfl)) (d := false) (by simp)) (fun z => Bool.noConfusion z) fun _ => wpb_nil ?_)
    refine wpb_cons (wps_ifE (EvT.to (tst (hs := rfl)) (d := false) (by simp)) (fun z => Bool.noConfusion z) fun _ => wpb_nil ?_)
    refine wpb_cons (wps_ifE (EvT.to (tst (hs := rfl)) (d := false) (by simp)) (fun z => Bool.noConfusion z) fun _ => wpb_nil ?_)
    refine wpb_cons (wps_ifE (EvT.to (tst (hs := rfl)) (d := false) (by simp)) (fun z => Bool.noConfusion z) fun _ => wpb_nil ?_)
    refine wpb_cons (wps_ifE (EvT.to (tst (hs := rfl)) (d := false) (by simp)) (fun z => Bool.noConfusion z) fun _ => wpb_nil ?_)
    exact wpb_cons (wps_ret (wpe_methK1 (ET := NoX) LF.G.cls LF.m LF.F (room.mono (by decide)) pass0 (Ev.wp (B.nm (i := 0) rfl rfl (.inl rfl)) ⟨w, rfl, ins, EvA.wp (eva_cons (ev_ix (B.nm (i := 1) rfl rfl (.inl rfl)) ev_int (ixv_list (.inl ht) rfl)) (eva_cons (ev_ix (B.nm (i := 1) rfl rfl (.inl rfl)) ev_int (ixv_list (.inl ht) rfl)) (eva_cons (ev_ix (B.nm (i := 1) rfl rfl (.inl rfl)) ev_int (ixv_list (.inl ht) rfl)) (eva_cons (ev_ix (B.nm (i := 1) rfl rfl (.inl rfl)) ev_int (ixv_list (.inl ht) rfl)) (eva_cons (ev_ix (B.nm (i := 1) rfl rfl (.inl rfl)) ev_int (ixv_list (.inl ht) rfl)) eva_nil))))) (Ev.wp (tp (hs := rfl)) fin)⟩)))
  · simp only [List.length_cons] at n5; omega
/-! _law_refused -/
def outN (ns : List Str) : List Str → Option TL.D
  | [] => none
  | n :: r => if isName n = false then some (pr ("name", n)) else if n ∈ ns then some (pr ("there", n)) else outN (ns ++ [n]) r
def outR (ns fs : List Str) (t : Str × Str) : TL.D := match outN ns fs with
  | some z => z
  | none => if t.1 ∉ ns ++ fs then pr ("person", t.1) else if t.2 ∉ ns ++ fs then pr ("person", t.2) else pr ("fine", "")
theorem outN_good : ∀ {fs : List Str} {ns : List Str}, goodTo (ns ++ fs) → outN ns fs = none
  | [], _, _ => rfl
  | n :: r, ns, h => by
    obtain ⟨h1, h2, _⟩ := h.noBad (pre := []) (n := n) (post := r) rfl
    rw [List.append_nil] at h2
    show (if isName n = false then _ else _) = _
    rw [if_neg (by rw [h1]; exact fun z => Bool.noConfusion z), if_neg h2]
    exact outN_good (by rw [List.append_assoc]; exact h)
theorem outN_bad {n : Str} {post : List Str} : ∀ {pre ns : List Str}, goodTo (ns ++ pre) → outN ns (pre ++ n :: post) = outN (ns ++ pre) (n :: post)
  | [], ns, _ => by rw [List.append_nil]; rfl
  | m :: r, ns, h => by
    obtain ⟨h1, h2, _⟩ := h.noBad (pre := []) (n := m) (post := r) rfl
    rw [List.append_nil] at h2
    show (if isName m = false then _ else _) = _
    rw [if_neg (by rw [h1]; exact fun z => Bool.noConfusion z), if_neg h2]
    have h3 : goodTo ((ns ++ [m]) ++ r) := by rw [List.append_assoc]; exact h
    show outN (ns ++ [m]) (r ++ n :: post) = _
    rw [outN_bad h3, List.append_assoc]; rfl
structure ExG (K : PySem.W.Frag) : Prop where
  nn : exm K "NoName" "NoName" true
  an : exm K "AlreadyThere" "NoName" false
  aa : exm K "AlreadyThere" "AlreadyThere" true
  pn : exm K "NoPerson" "NoName" false
  pa : exm K "NoPerson" "AlreadyThere" false
  pp : exm K "NoPerson" "NoPerson" true
  tt : exm K "TooMany" "TooMany" true
def tpRef3 (K : PySem.W.Frag) : TSp := fun ds A Q E => ∃ w wl W, ∃ (ns : List Str) (ts : List (Str × Str)) (fs : List Str) (t : Str × Str), ds = [.ref w, pr t, .tup (fs.map .str)] ∧ A w = some (.abs (isWeb (cW K) wl w W)) ∧ GW W ns ts ∧ (∀ n ∈ fs, n.length ≤ sizeLine) ∧ ns.length + fs.length ≤ 24 ∧ (outN ns fs = none → goodTo (ns ++ fs)) ∧ ∀ A', TL.Sub A A' → Q (outR ns fs t) A'
theorem sc_ref3 : FnScope N_law_refused ["_law_web_here", "_law_tie", "_law_fresh"] (defScope s_law_refused) := ⟨rfl, rfl, rfl, by decide +kernel, rfl, by decide +kernel, by decide +kernel⟩
theorem body_ref3 (XX : WebX P w K mg base) (ER : ExG K) (LF : GrF P w K mg base) : BodyT0 P w K mg base N_law_refused (defScope s_law_refused) 7 (defBody s_law_refused) (tpRef3 K) := by
  intro X bd ds A Q ET hx ⟨w, wl, W, ns, ts, fs, t, e, hw, gW, hsz, h24, hgood, qq⟩
  obtain ⟨rfl, rfl, rfl, rfl, rfl, B, room, stk, frm⟩ := bd
  subst e
  have s2 : (2 : Nat) ≤ sizeLine := by decide
  have kl : X.env.kindOf "e" = some .local := by show X.env.scope.names.lookup _ = _; rw [B.sc]; rfl
  have hN : X.N[3]? = some ("e" : Str) := by rw [B.n]; rfl
  have ins : InsT X.K A w (cW X.K) "grown" := web_insT hw fun _ _ _ => rfl
  refine wpb0_cons (wps0_try B.nd stk frm hx.at_ (fun pn xe tk po => WPB.to0 (wpb_cons (wps_expr (wpe_methK1 (X := X.tr pn xe) (ET := wHT X ET _ _ _) LF.G.cls LF.m LF.F (room.mono (by decide)) tk.p (Ev.wp (B.toBC.tr.nm (i := 0) rfl rfl (.inl rfl)) ⟨w, rfl, ins, EvA.wp (eva_cons ((B.toBC.tr.nm (i := 1) rfl rfl (.inl rfl))) eva_nil) (Ev.wp (B.toBC.tr.nm (i := 2) rfl rfl (.inl rfl)) ⟨.ref w, [pr t], .tup (fs.map .str), rfl, (show 1 ≤ sizeLine by decide), w, wl, W, ns, ts, fs, [t], rfl, hw, gW, hsz, fun gd ht V q lq gV hq hlq => ?_, fun pre n post e gp => ⟨fun h1 => ?_, fun h1 h2 => ?_, fun h1 h2 h3 => ?_⟩, fun gd pre u post e hpre => ?_⟩)⟩)))))
    (.as_ hN kl ⟨B.gl rfl, by decide, .inl XX.nn.g⟩ (.as_ hN kl ⟨B.gl rfl, by decide, .inl XX.at_.g⟩ (.as_ hN kl ⟨B.gl rfl, by decide, .inl XX.np.g⟩ .nil))))
  · have e1 : outR ns fs t = pr ("fine", "") := by
      unfold outR
      rw [outN_good gd]
      have := ht t (List.mem_singleton_self _)
      show (if t.1 ∉ ns ++ fs then _ else _) = _
      rw [if_neg (fun z => z this.1), if_neg (fun z => z this.2)]
    have sV := Sub.upd (o := .abs (isWeb (cW X.K) lq q V)) (Sub.refl A) hq
    refine wpb_nil (WPB.to0 (wpb_cons (wps_ret (Ev.wp (ev_tup (eva_cons ev_str (eva_cons ev_str eva_nil)) (show 2 ≤ sizeLine by decide)) (RV.mk ?_)))))
    have := qq _ sV
    rw [e1] at this; exact this
  · have e1 : outR ns fs t = pr ("name", n) := by
      unfold outR
      rw [e, outN_bad gp]
      show (match (if isName n = false then some (pr ("name", n)) else _) with | some z => z | none => _) = _
      rw [if_pos h1]
    exact wHT.yes ER.nn fun a ox o pn A1 hz hf ax => WPB.to0 (wpb_cons (wps_ret (Ev.wp (ev_tup (eva_cons ev_str (eva_cons (ev_xf XX.nn.xf (XX.nn.nf _ (by simp)) hz hf ax rfl hN rfl (.inl kl)) eva_nil)) s2) (RV.sub ax.sub (by rw [e1] at qq; exact qq _ (Sub.refl _))))))
  · have e1 : outR ns fs t = pr ("there", n) := by
      unfold outR
      rw [e, outN_bad gp]
      show (match (if isName n = false then some (pr ("name", n)) else if n ∈ ns ++ pre then some (pr ("there", n)) else _) with | some z => z | none => _) = _
      rw [if_neg (by rw [h1]; exact fun z => Bool.noConfusion z), if_pos h2]
    exact wHT.no ER.an (wHT.yes ER.aa fun a ox o pn A1 hz hf ax => WPB.to0 (wpb_cons (wps_ret (Ev.wp (ev_tup (eva_cons ev_str (eva_cons (ev_xf XX.at_.xf (XX.at_.nf _ (by simp)) hz hf ax rfl hN rfl (.inl kl)) eva_nil)) s2) (RV.sub ax.sub (by rw [e1] at qq; exact qq _ (Sub.refl _)))))))
  · rw [e] at h24
    simp only [List.length_append, List.length_cons] at h24 h3
    omega
  · have eu : u = t := by
      cases pre with
      | nil => exact (List.cons.inj e).1.symm
      | cons a b => exact absurd (congrArg List.length e) (by simp)
    subst eu
    refine ⟨fun h1 => ?_, fun h1 h2 => ?_⟩
    · have e1 : outR ns fs u = pr ("person", u.1) := by
        unfold outR
        rw [outN_good gd]
        show (if u.1 ∉ ns ++ fs then _ else _) = _
        rw [if_pos h1]
      exact wHT.no ER.pn (wHT.no ER.pa (wHT.yes ER.pp fun a ox o pn A1 hz hf ax => WPB.to0 (wpb_cons (wps_ret (Ev.wp (ev_tup (eva_cons ev_str (eva_cons (ev_xf XX.np.xf (XX.np.nf _ (by simp)) hz hf ax rfl hN rfl (.inl kl)) eva_nil)) s2) (RV.sub ax.sub (by rw [e1] at qq; exact qq _ (Sub.refl _))))))))
    · have e1 : outR ns fs u = pr ("person", u.2) := by
        unfold outR
        rw [outN_good gd]
        show (if u.1 ∉ ns ++ fs then _ else _) = _
        rw [if_neg (fun z => z h1), if_pos h2]
      exact wHT.no ER.pn (wHT.no ER.pa (wHT.yes ER.pp fun a ox o pn A1 hz hf ax => WPB.to0 (wpb_cons (wps_ret (Ev.wp (ev_tup (eva_cons ev_str (eva_cons (ev_xf XX.np.xf (XX.np.nf _ (by simp)) hz hf ax rfl hN rfl (.inl kl)) eva_nil)) s2) (RV.sub ax.sub (by rw [e1] at qq; exact qq _ (Sub.refl _))))))))
/-! _law_late -/
def tpLate (K : PySem.W.Frag) : TSp := fun ds A Q E => ∃ w wl W, ∃ (ns : List Str) (ts : List (Str × Str)) (pre : List Str) (n : Str) (post : List Str), ds = [.ref w, .tup ((pre ++ n :: post).map .str)] ∧ A w = some (.abs (isWeb (cW K) wl w W)) ∧ GW W ns ts ∧ goodTo (ns ++ pre) ∧ (ns ++ pre).length = 24 ∧ isName n = true ∧ n ∉ ns ++ pre ∧ (∀ x ∈ post, x.length ≤ sizeLine) ∧ ∀ q A', TL.Sub A A' → A' q = some (.prim (.lst (ns.map .str))) → Q (.ref q) A'
theorem sc_late : FnScope N_law_late ["_law_web_here", "_law_fresh"] (defScope s_law_late) := ⟨rfl, rfl, rfl, by decide +kernel, rfl, by decide +kernel, by decide +kernel⟩
/-- two ways to take a list apart -/
theorem split_cmp {α : Type} {p q : List α} {a b : α} {r s : List α} (h : p ++ a :: r = q ++ b :: s) : (∃ u, q = p ++ a :: u) ∨ (p = q ∧ a = b) ∨ ∃ u, p = q ++ b :: u := by
  induction p generalizing q with
  | nil => cases q with
    | nil => exact .inr (.inl ⟨rfl, (List.cons.inj h).1⟩)
    | cons c q => exact .inl ⟨q, by rw [(List.cons.inj h).1]; rfl⟩
  | cons c p ih => cases q with
    | nil => exact .inr (.inr ⟨p, by rw [(List.cons.inj h).1]; rfl⟩)
    | cons d q =>
      obtain ⟨h1, h2⟩ := List.cons.inj h
      subst h1
      rcases ih h2 with ⟨u, e⟩ | ⟨e, k⟩ | ⟨u, e⟩
      · exact .inl ⟨u, by rw [e]; rfl⟩
      · exact .inr (.inl ⟨by rw [e], k⟩)
      · exact .inr (.inr ⟨u, by rw [e]; rfl⟩)
theorem body_late (XX : WebX P w K mg base) (ER : ExG K) (LF : GrF P w K mg base) (M : WebM K) (ith : ItFnH P w K mg base 1 (wm K "__iter__") (cW K) "_people") (lenh : LenFnH P w K mg base 1 (wm K "__len__") (cW K) "_people") : BodyT0 P w K mg base N_law_late (defScope s_law_late) 7 (defBody s_law_late) (tpLate K) := by
  intro X bd ds A Q ET hx ⟨w, wl, W, ns, ts, pre, n, post, e, hw, gW, gp, h24, hn, hnew, hsz, qq⟩
  obtain ⟨rfl, rfl, rfl, rfl, rfl, B, room, stk, frm⟩ := bd
  subst e
  have ins : InsT X.K A w (cW X.K) "grown" := web_insT hw fun _ _ _ => rfl
  have hu := room.units
  refine wpb0_cons (wps0_try B.nd stk frm hx.at_ (fun pn xe tk po => WPB.to0 (wpb_cons (wps_expr (wpe_methK0 (X := X.tr pn xe) (ET := wHT X ET _ _ _) LF.G.cls LF.m LF.F (room.mono (by decide)) tk.p (Ev.wp (B.toBC.tr.nm (i := 0) rfl rfl (.inl rfl)) ⟨w, rfl, ins, Ev.wp (B.toBC.tr.nm (i := 1) rfl rfl (.inl rfl)) ⟨.ref w, [], .tup ((pre ++ n :: post).map .str), rfl, Nat.zero_le _, w, wl, W, ns, ts, pre ++ n :: post, [], rfl, hw, gW, fun x hx => ?_, fun gd _ V q lq gV hq hlq => ?_, fun pre2 m post2 e gp2 => ?_, fun gd pre u post e hpre => absurd (congrArg List.length e) (by simp)⟩⟩)))))
    (.only ⟨B.gl rfl, by decide, .inl XX.tm.g⟩ .nil))
  · rcases List.mem_append.mp hx with h | h
    · exact gp.sz x h
    · rcases List.mem_cons.mp h with rfl | h
      · exact Nat.le_trans (isName_len hn).2 (by decide)
      · exact hsz x h
  · have := gd.2.1
    simp only [List.length_append, List.length_cons] at this h24
    omega
  · rcases split_cmp e with ⟨u, e2⟩ | ⟨rfl, rfl⟩ | ⟨u, e2⟩
    · have := gp2.2.1
      rw [e2] at this
      simp only [List.length_append, List.length_cons] at this h24
      omega
    · refine ⟨fun z => (by rw [hn] at z; cases z), fun _ z => (hnew z).elim, fun _ _ _ => wHT.yes ER.tt fun a ox o pn2 A7 hz hf ax => WPB.to0 (wpb_cons (wps_ret ?_))⟩
      have hW7 := ax.sub _ _ hw
      refine EvN.wp (evn_listH B.toBC.suite rfl LF.fr.list M.iter ith M.len lenh (k := 1) ⟨by have := room.dp; show X.A.depth + _ < _; omega, by have := room.un; show X.A.units + _ < _; omega⟩ (hot_suite hz hf) (B.toBC.suite.nm (i := 0) rfl rfl (.inl rfl)) (fldO_abs hW7 fun m ⟨lt, lr, ad, h1, _⟩ => ⟨_, h1, rfl⟩) (.inr ⟨w, _, hW7, fun m ⟨lt, lr, ad, _, h2, _⟩ => h2⟩) (by rw [List.length_map]; exact Nat.le_trans gW.good.len (by decide))) fun q hq => ?_
      rw [gW.pp]
      exact RV.mk (qq q _ (ax.sub.trans (Sub.upd (Sub.refl _) hq)) updA_same)
    · obtain ⟨h1, h2, h3⟩ := gp.noBad e2
      exact ⟨fun z => (by rw [h1] at z; cases z), fun _ z => (h2 z).elim, fun _ _ z => (by omega)⟩
end TL
/-! _law_reach: its lists have no name twice -/
namespace TL
open PySem PySem.Spec PyProof.Rows L2
variable {P : Program} {w : World} {K : PySem.W.Frag} {mg : Str → Option Value} {base : Heap} {k : Nat}
def tpReachN : TSp := fun ds A Q E => ∃ l l2, ∃ ns : List Str, ∃ ts : List (Str × Str), ds = [.ref l, .ref l2] ∧ A l = some (.prim (.lst (ns.map .str))) ∧ A l2 = some (.prim (.lst (ts.map pr))) ∧ ns.Nodup ∧ ns.length ≤ 24 ∧ (∀ t ∈ ts, t.1 ∈ ns ∧ t.2 ∈ ns) ∧
  ∀ d A' R, TL.Sub A A' → DictL A' d ns R → (∀ n ∈ ns, (R n).Nodup ∧ ∀ x, x ∈ R n ↔ Path ts n x) → Q (.ref d) A'
theorem body_reachN (G : Free mg) : BodyT P w K mg base N_law_reach (defScope s_law_reach) 1 (defBody s_law_reach) tpReachN := by
  intro X bd ds A Q ET hx ⟨l, l2, ns, ts, e, hl, hl2, nd, h24, hts, q⟩
  obtain ⟨rfl, rfl, rfl, rfl, rfl, B, room, _, _⟩ := bd
  subst e
  have u1 : X.A.units + 1 < cLine := by have := room.units; omega
  have u3 : X.A.units + 1 + 0 < cLine := by have := room.units; omega
  refine wpb_cons (B.set (i := 2) rfl (.inl rfl) (EvN.wp evn_dict fun d hd => ?_))
  have s0 : TL.Sub A (updA A d (.prim (.dK []))) := Sub.upd (Sub.refl A) hd
  refine wpb_cons (B.for_ (wpi_list (Ev.wp (B.nm (i := 0) rfl rfl (.inl rfl)) ⟨l, _, rfl, s0 _ _ hl, fun i δ' A' => ∃ (ad : Str → Addr) (R : Str → List Str) (v3 v4 v5 v6 : Option TL.D), TL.Sub A A' ∧ A' d = some (.prim (.dK ((ns.take i).map fun n => (.inr n, .ref (ad n))))) ∧ (∀ n ∈ ns.take i, A' (ad n) = some (.prim (.lst ((R n).map .str)))) ∧ (∀ n ∈ ns.take i, (R n).Nodup ∧ ∀ x, x ∈ R n ↔ Path ts n x) ∧
    δ' = [some (.ref l), some (.ref l2), some (.ref d), v3, v4, v5, v6], ⟨fun _ => 0, fun _ => [], none, none, none, none, s0, updA_same, fun _ h => (nomatch h), fun _ h => (nomatch h), rfl⟩, fun i δ' A' _ ⟨_, _, _, _, _, _, sA, _⟩ => sA _ _ hl, fun i δ' A' hi ⟨ad, R, v3, v4, v5, v6, sA, hD, hR, hP, eδ⟩ => ?_, fun δ' A' ⟨ad, R, v3, v4, v5, v6, sA, hD, hR, hP, eδ⟩ => ?_⟩)))
  · subst eδ
    have hi' : i < ns.length := by simpa using hi
    have hmem := List.getElem_mem hi'
    have hnot := not_in_take nd hi'
    have hmt := fun x => mem_take_next (x := x) hi'
    refine WPG.to (B.tn (i := 3) rfl (.inl rfl) ?_) (getD_map hi')
    generalize hnm : ns[i] = n at hmem hnot hmt
    refine wpb_cons (B.set (i := 4) rfl (.inl rfl) (EvN.wp (evn_lst (eva_cons (B.nm (i := 3) rfl rfl (.inl rfl)) eva_nil) (show 1 ≤ sizeLine by decide)) fun f hf => ?_))
    have frs : ∀ o : AO, TL.Sub A' (updA A' f o) := fun o => Sub.upd (Sub.refl A') hf
    have hl' := sA _ _ hl
    have hl2' := sA _ _ hl2
    refine wpb_cons (B.for_ (wpi_range1 B.toBC rfl G.range (Ev.wp (Ev.to (B.eB rfl G.len bt_len (eva_cons (B.nm (i := 0) rfl rfl (.inl rfl)) eva_nil) (cav_len (.inl (frs _ _ _ hl')))) (by rw [List.length_map])) ⟨(ns.length : Nat), rfl, by omega, by omega, fun j δ' A'' => ∃ (v5 v6 : Option TL.D), A'' = updA A' f (.prim (.lst ((passes ts j [n]).map .str))) ∧
      δ' = [some (.ref l), some (.ref l2), some (.ref d), some (.str n), some (.ref f), v5, v6], ⟨v5, v6, rfl, rfl⟩, fun _ _ _ _ _ => trivial, fun j δ' A'' hj ⟨v5, v6, eA, eδ⟩ => ?_, fun δ' A'' ⟨v5, v6, eA, eδ⟩ => ?_⟩)))
    · subst eA eδ
      refine WPG.to (B.tn (d := .int j) (i := 5) rfl (.inl rfl) ?_) (by simp)
      have fo := FOk.passes hts (FOk.one (ts := ts) hmem) j
      generalize hF : passes ts j [n] = F0 at fo ⊢
      refine wpb_cons (B.for_ (wpi_list (Ev.wp (B.nm (i := 1) rfl rfl (.inl rfl)) ⟨l2, _, rfl, frs _ _ _ hl2', fun m δ' A'' => ∃ (v6 : Option TL.D), A'' = updA A' f (.prim (.lst (((ts.take m).foldl passT F0).map .str))) ∧
        δ' = [some (.ref l), some (.ref l2), some (.ref d), some (.str n), some (.ref f), some (.int j), v6], ⟨v6, rfl, rfl⟩, fun m δ' A'' _ ⟨v6, eA, _⟩ => by rw [eA]; exact frs _ _ _ hl2', fun m δ' A'' hm ⟨v6, eA, eδ⟩ => ?_, fun δ' A'' ⟨v6, eA, eδ⟩ => ?_⟩)))
      · subst eA eδ
        have hm' : m < ts.length := by simpa using hm
        refine WPG.to (B.tn (i := 6) rfl (.inl rfl) ?_) (getD_map hm')
        have fo2 := FOk.fold hts (us := ts.take m) (fun t ht => List.mem_of_mem_take ht) fo
        have flen := len_le_of_sub fo2.nd fo2.sub
        have enext := fold_next (f := F0) hm'
        generalize (ts.take m).foldl passT F0 = F1 at fo2 flen enext ⊢
        rcases ht : ts[m] with ⟨t1, t2⟩
        rw [ht] at enext
        refine wpb_cons (wps_ifE (et_w (ew_and (et_cmp (ev_ix (B.nm (d := .tup [.str t1, .str t2]) (i := 6) rfl rfl (.inl rfl)) ev_int (ixv_tup (z := .str t1) rfl)) (B.nm (i := 4) rfl rfl (.inl rfl)) (opv_inL (x := t1) (ys := F1) updA_same u3) rfl) fun _ => ew_and1 (et_cmp (ev_ix (B.nm (d := .tup [.str t1, .str t2]) (i := 6) rfl rfl (.inl rfl)) ev_int (ixv_tup (z := .str t2) rfl)) (B.nm (i := 4) rfl rfl (.inl rfl)) (opv_notInL (x := t2) (ys := F1) updA_same u3) rfl))) (fun hk => ?_) fun hk => ?_)
        · have hk' : t1 ∈ F1 ∧ t2 ∉ F1 := by simpa using hk
          refine wpb_cons (wps_expr (wpe_append (Ev.wp (B.nm (i := 4) rfl rfl (.inl rfl)) ⟨f, rfl, ⟨_, updA_same⟩, Ev.wp (ev_ix (B.nm (d := .tup [.str t1, .str t2]) (i := 6) rfl rfl (.inl rfl)) ev_int (ixv_tup (z := .str t2) rfl)) ⟨_, updA_same, by rw [List.length_map, sizeLine_eq]; omega, ?_⟩⟩)))
          refine wpb_nil (wpb_nil ⟨_, Vw.refl _, some (.tup [.str t1, .str t2]), ?_, rfl⟩)
          rw [updA_updA, enext]
          unfold passT
          rw [if_pos hk', List.map_append]; rfl
        · have hk' : ¬ (t1 ∈ F1 ∧ t2 ∉ F1) := by simpa using hk
          refine wpb_nil (wpb_nil ⟨_, Vw.refl _, some (.tup [.str t1, .str t2]), ?_, rfl⟩)
          rw [enext]
          unfold passT
          rw [if_neg hk']
      · subst eA eδ
        rw [List.length_map, List.take_length]
        exact wpb_nil ⟨_, Vw.refl _, some (.int j), v6, by show _ = updA A' f (.prim (.lst ((pass ts (passes ts j [n])).map .str))); rw [hF]; rfl, rfl⟩
    · subst eA eδ
      have ej : ((ns.length : Nat) : Int).toNat = ns.length := by omega
      rw [ej]
      have pp := passes_path hmem hts
      have pn := (FOk.passes hts (FOk.one (ts := ts) hmem) ns.length).nd
      generalize passes ts ns.length [n] = F at pp pn ⊢
      have nfd : d ≠ f := fun z => by rw [← z, hD] at hf; cases hf
      refine wpb_cons (wps_dput u1 (Ev.wp (B.nm (i := 4) rfl rfl (.inl rfl)) (Ev.wp (B.nm (i := 2) rfl rfl (.inl rfl)) (Ev.wp (B.nm (i := 3) rfl rfl (.inl rfl)) ⟨d, _, .inr n, rfl, rfl, frs _ _ _ hD, by rw [List.length_map, List.length_take, sizeLine_eq]; omega, ?_⟩))))
      have hAd : A d = none := hd
      refine wpb_nil ⟨_, Vw.refl _, fun x => if x = n then f else ad x, fun x => if x = n then F else R x, some (.str n), some (.ref f), v5, v6, ?_, ?_, fun x hx => ?_, fun x hx => ?_, rfl⟩
      · intro b o hb
        have hbd : b ≠ d := fun z => by rw [z, hAd] at hb; cases hb
        exact upd_ne' (frs _ _ _ (sA _ _ hb)) hbd
      · rw [updA_same, putKD_new hnot, take_snoc (show ns[i]? = some n by rw [← hnm]; exact List.getElem?_eq_getElem hi'), List.map_append, List.map_singleton]
        have em : ((ns.take i).map fun x => ((.inr x : Key), TL.D.ref (ad x))) = (ns.take i).map fun x => ((.inr x : Key), TL.D.ref (if x = n then f else ad x)) := List.map_congr_left fun x hx => by rw [if_neg (fun (z : x = n) => hnot (by rw [← z]; exact hx))]
        rw [em]
        simp
      · by_cases q : x = n
        · simp only [q, if_true]
          exact upd_ne' updA_same (Ne.symm nfd)
        · simp only [q, if_false]
          have hx' : x ∈ ns.take i := by
            rcases (hmt x).mp hx with z | z
            · exact z
            · exact absurd z q
          exact upd_ne' (frs _ _ _ (hR x hx')) (ne_kind (hR x hx') hD (by intro z; cases z))
      · by_cases q : x = n
        · simp only [q, if_true]
          exact ⟨pn, pp⟩
        · simp only [q, if_false]
          have hx' : x ∈ ns.take i := by
            rcases (hmt x).mp hx with z | z
            · exact z
            · exact absurd z q
          exact hP x hx'
  · subst eδ
    rw [List.length_map, List.take_length] at hD hR hP
    exact wpb_cons (wps_ret (Ev.wp (B.nm (i := 2) rfl rfl (.inl rfl)) (RV.mk (q d A' R sA ⟨ad, hD, hR⟩ hP))))
end TL
/-! law k03: _law_many, _law_slow, _law_empty -/
namespace TL
open PySem PySem.Spec PyProof.Rows L2
variable {P : Program} {w : World} {K : PySem.W.Frag} {mg : Str → Option Value} {base : Heap} {k : Nat}
theorem evn_cat0 {X : Cx} {e e2 : Expr} {δ : Ds} {A : AH} {p q : Addr} {xs ys : List TL.D} {pos : Pos} (ha : Ev X e δ A (.ref p)) (hb : Ev X e2 δ A (.ref q)) (hp : A p = some (.prim (.lst xs))) (hq : A q = some (.prim (.lst ys))) (hl : xs.length + ys.length ≤ sizeLine) : EvN X (.BinOp e .Add e2 pos) δ A (.lst (xs ++ ys)) :=
  fun A1 k Q h => wpe_bin ((ha.sub k).wp ((hb.sub k).wp (OpN.w (opn_cat (k _ _ hp) (k _ _ hq) hl) h)))
def EvLW (X : Cx) (e : Expr) (δ : Ds) (A : AH) (xs : List TL.D) : Prop := ∀ A1, TL.Sub A A1 → WPE X e δ A1 fun d A2 => ∃ t, d = .ref t ∧ TL.Sub A1 A2 ∧ A2 t = some (.prim (.lst xs))
/-- a web, new or old -/
def EvWb (X : Cx) (e : Expr) (δ : Ds) (A : AH) (ns : List Str) (ts : List (Str × Str)) : Prop := ∀ A1, TL.Sub A A1 → ∀ Q : TQ, (∀ p lp V A', TL.Sub A1 A' → A' p = some (.abs (isWeb (cW X.K) lp p V)) → GW V ns ts → Q (.ref p) A') → WPE X e δ A1 Q
section
variable {X : Cx} {N : List Str} {sc : Scope} {δ : Ds} {A : AH} {Q : TQ} {e e1 e2 e3 o : Expr} {p1 p2 p3 pos apos : Pos} {w wl v vl r : Addr} {W V : WebD} {ns : List Str} {ts : List (Str × Str)}
theorem EvN.toW {xs : List TL.D} (h : EvN X e δ A (.lst xs)) : EvLW X e δ A xs := fun A1 k => EvN.wp (EvN.sub h k) fun t ht => ⟨t, rfl, Sub.upd (Sub.refl _) ht, updA_same⟩
theorem Ev.toW {xs : List TL.D} {t : Addr} (h : Ev X e δ A (.ref t)) (ht : A t = some (.prim (.lst xs))) : EvLW X e δ A xs := fun A1 k => Ev.wp (Ev.sub h k) ⟨t, rfl, Sub.refl _, k _ _ ht⟩
theorem EvLW.to {xs ys : List TL.D} (h : EvLW X e δ A xs) (k : xs = ys) : EvLW X e δ A ys := k ▸ h
theorem EvLW.sub {A' : AH} {xs : List TL.D} (h : EvLW X e δ A xs) (k : TL.Sub A A') : EvLW X e δ A' xs := fun A1 k1 => h A1 (k.trans k1)
theorem Ev.toWb (h : Ev X e δ A (.ref w)) (hw : A w = some (.abs (isWeb (cW X.K) wl w W))) (g : GW W ns ts) : EvWb X e δ A ns ts := fun A1 k Q q => Ev.wp (Ev.sub h k) (q w wl W A1 (Sub.refl _) (k _ _ hw) g)
/-- list(o), o a web -/
theorem EvWb.list (F : WebFn X) (B : BC X N sc) (hg : sc.names.lookup ("list" : Str) = some .globalImplicit) (h : EvWb X o δ A ns ts) (hs : starEach [o] X.env = (false, eval o X.env) :: starEach [] X.env := by rfl) : EvLW X (.Call (.Name "list" p1) [o] [] p2) δ A (ns.map .str) := fun A1 k =>
  B.callT hg F.G.flist bt_list (wpa_cons (h A1 k _ fun p lp V A2 k2 hp g => wpa_nil (by
    have hl : V.people.length ≤ 24 := g.good.len
    have hz : V.people.length ≤ sizeLine := by rw [sizeLine_eq]; omega
    refine caw_listO (l := lp) (xs := V.people.map .str) F.M.iter F.it (F.room.mono (by omega)) (fldO_abs hp fun m ⟨lt, lr, ad, h1, _⟩ => ⟨_, h1, rfl⟩) (.inr ⟨p, _, hp, fun m ⟨lt, lr, ad, _, h2, _⟩ => h2⟩) (by rw [List.length_map]; exact hz) fun q hqn => ?_
    have sA := Sub.upd (o := .prim (.lst [])) (Sub.refl A2) hqn
    refine hint_len F.M.len F.len (F.room.mono (by omega)) (web_insC (sA _ _ hp)) ⟨p, lp, V, rfl, sA _ _ hp, V.people.length, rfl, hz, updA_same, .inr ⟨p, _, sA _ _ hp, fun m ⟨lt, lr, ad, _, h2, _⟩ => h2⟩, ?_⟩
    rw [updA_updA, g.pp]
    exact ⟨q, rfl, k2.trans (Sub.upd (Sub.refl _) hqn), updA_same⟩)) hs) (he := hs)
theorem et_neWN {α : Type} [DecidableEq α] [PySem.W.Datum α] [Tree α] {xs ys : List α} (h : EvLW X e δ A (xs.map Tree.enc)) (h2 : EvN X e2 δ A (.lst (ys.map Tree.enc))) (hu : X.A.units + (PySem.W.Datum.depth α + 1) < cLine) (hm : behindInMarks .NotEq e2 = false := by rfl) : EvT X (.Compare e [.NotEq] [e2] pos) δ A (decide (xs ≠ ys)) :=
  et_drop fun A1 k => wpt_cmp hm (WPE.mono (h A1 k) fun d A2 ⟨t, ed, k2, ht⟩ => by
    subst ed
    exact (h2.sub (k.trans k2)).wp fun r hr => OpV.w (opv_neL (xs := xs) (ys := ys) (upd_new ht hr) updA_same hu) ⟨_, rfl, rfl, k2.trans (Sub.upd (Sub.refl _) hr)⟩)
theorem et_neWR {α : Type} [DecidableEq α] [PySem.W.Datum α] [Tree α] {xs ys : List α} (h : EvLW X e δ A (xs.map Tree.enc)) (h2 : Ev X e2 δ A (.ref r)) (hr : A r = some (.prim (.lst (ys.map Tree.enc)))) (hu : X.A.units + (PySem.W.Datum.depth α + 1) < cLine) (hm : behindInMarks .NotEq e2 = false := by rfl) : EvT X (.Compare e [.NotEq] [e2] pos) δ A (decide (xs ≠ ys)) :=
  et_drop fun A1 k => wpt_cmp hm (WPE.mono (h A1 k) fun d A2 ⟨t, ed, k2, ht⟩ => by
    subst ed
    exact (h2.sub (k.trans k2)).wp (OpV.w (opv_neL (xs := xs) (ys := ys) ht ((k.trans k2) _ _ hr) hu) ⟨_, rfl, rfl, k2⟩))
theorem ev_eqWN {α : Type} [DecidableEq α] [PySem.W.Datum α] [Tree α] {xs ys : List α} (h : EvLW X e δ A (xs.map Tree.enc)) (h2 : EvN X e2 δ A (.lst (ys.map Tree.enc))) (hu : X.A.units + (PySem.W.Datum.depth α + 1) < cLine) (hm : behindInMarks .Eq e2 = false := by rfl) : Ev X (.Compare e [.Eq] [e2] pos) δ A (.bl (decide (xs = ys))) :=
  ev_drop fun A1 k => wpe_cmp hm (WPE.mono (h A1 k) fun d A2 ⟨t, ed, k2, ht⟩ => by
    subst ed
    exact (h2.sub (k.trans k2)).wp fun r hr => OpV.w (opv_eqL (xs := xs) (ys := ys) (upd_new ht hr) updA_same hu) ⟨rfl, k2.trans (Sub.upd (Sub.refl _) hr)⟩)
/-- _law_same(e1, e2, e3) -/
theorem same_ev (B : BC X N sc) (F : FnT X.prog X.w X.K X.mg X.base 9 (He.ga X.K "_law_same") (tpSame X.K)) (g : GF X.K X.mg "_law_same") (room : Room 9 X.A) (hg : sc.names.lookup ("_law_same" : Str) = some .globalImplicit)
    (h1 : EvWb X e1 δ A ns ts) (h2 : EvLW X e2 δ A (ns.map .str)) (h3 : EvLW X e3 δ A (ts.map pr)) (tin : ∀ u ∈ ts, u.1 ∈ ns ∧ u.2 ∈ ns) (hl : ts.length ≤ 100)
    (s1 : starEach [e1, e2, e3] X.env = (false, eval e1 X.env) :: starEach [e2, e3] X.env := by rfl) (hpl : (backTo pos (starEach [e2, e3] X.env)).any (·.1) = false := by rfl) (s2 : starEach [e2, e3] X.env = (false, eval e2 X.env) :: starEach [e3] X.env := by rfl) (s3 : starEach [e3] X.env = (false, eval e3 X.env) :: starEach [] X.env := by rfl) :
    Ev X (.Call (.Name "_law_same" p1) [e1, e2, e3] [] pos) δ A (.bl true) := ev_drop fun A1 k =>
  B.call (ET := NoX) F room hg g.g g.k pass0 (wpa_cons (h1 A1 k _ fun p lp V A2 k2 hp gV => wpa_cons (WPE.mono (h2 A2 (k.trans k2)) fun d A3 ⟨t, ed, k3, ht⟩ => by
    subst ed
    exact wpa_cons (WPE.mono (h3 A3 ((k.trans k2).trans k3)) fun d A4 ⟨t2, ed, k4, ht2⟩ => by
      subst ed
      exact wpa_nil ⟨p, lp, V, t, t2, ns, ts, rfl, (k3.trans k4) _ _ hp, k4 _ _ ht, ht2, gV, tin, hl, rfl, (k2.trans k3).trans k4⟩) s3) s2) s1) (he := s1) (hpl := hpl)
/-- o.grows_into(e2) -/
theorem grows_ev (G : WebK X.K X.mg) (m : Meth X.K (cW X.K) "grows_into" (wm X.K "grows_into")) (F : FnT X.prog X.w X.K X.mg X.base 7 (wm X.K "grows_into") (tpGrows X.K)) (room : Room 7 X.A) (he : Ev X o δ A (.ref w)) (hw : A w = some (.abs (isWeb (cW X.K) wl w W))) (he2 : Ev X e2 δ A (.ref v)) (hv : A v = some (.abs (isWeb (cW X.K) vl v V))) (ne : w = v → V = W) (g : Good W) {pl : Sem Bool}
    (hst : starEach [e2] X.env = (false, eval e2 X.env) :: starEach [] X.env := by rfl)
    (ht : eval (.Call (.Attribute o "grows_into" apos) [e2] [] pos) X.env = (do
      let ov ← eval o X.env
      standAt apos.atName
      let (f, first) ← holding [ov] (getMethod ov "grows_into" pl)
      callWith pos f first (backTo pos (starEach [e2] X.env)) (backToKw pos (keywordEach [] X.env))) := by rfl) : Ev X (.Call (.Attribute o "grows_into" apos) [e2] [] pos) δ A (.bl (growsB W V)) := fun A1 k Q q =>
  wpe_meth (ET := NoX) G.cls m F room pass0 (Ev.wp (he.sub k) ⟨w, rfl, web_insT (k _ _ hw) fun _ _ _ => rfl, EvA.wp (eva_cons (he2.sub k) eva_nil hst) ⟨w, wl, W, v, vl, V, rfl, k _ _ hw, k _ _ hv, ne, ⟨g.nd, g.len, g.rnd, g.tnd, g.tin⟩, q⟩⟩) hst rfl ht
/-- o.grown(people=v) -/
theorem grown_wb (LF : GrF X.prog X.w X.K X.mg X.base) (room : Room 7 X.A) {ve : Expr} {kpos : Pos} {fs : List Str} (he : Ev X o δ A (.ref w)) (hw : A w = some (.abs (isWeb (cW X.K) wl w W))) (g : GW W ns ts) (hv : Ev X ve δ A (.tup (fs.map .str))) (gt : goodTo (ns ++ fs)) {pl : Sem Bool}
    (hpl : ((backTo pos (starEach [] X.env)).any (·.1) || (backToKw pos (keywordEach [⟨some "people", ve, kpos⟩] X.env)).any (·.1.isNone)) = false := by rfl)
    (ht : eval (.Call (.Attribute o "grown" apos) [] [⟨some "people", ve, kpos⟩] pos) X.env = (do
      let ov ← eval o X.env
      standAt apos.atName
      let (f, first) ← holding [ov] (getMethod ov "grown" pl)
      callWith pos f first (backTo pos (starEach [] X.env)) (backToKw pos (keywordEach [⟨some "people", ve, kpos⟩] X.env))) := by rfl) : EvWb X (.Call (.Attribute o "grown" apos) [] [⟨some "people", ve, kpos⟩] pos) δ A (ns ++ fs) ts := fun A1 k Q q =>
  wpe_methK0 (ET := NoX) LF.G.cls LF.m LF.F room pass0 (Ev.wp (he.sub k) ⟨w, rfl, web_insT (k _ _ hw) fun _ _ _ => rfl, Ev.wp (hv.sub k) (grown_ok (tl := []) (k _ _ hw) g gt (fun _ h => nomatch h) (Nat.zero_le _) fun V q1 lq gV h1 h2 => q q1 lq V _ (Sub.upd (Sub.refl _) h1) updA_same (by rw [List.append_nil] at gV; exact gV))⟩) hpl ht
end
theorem atI_get {fs : List Str} {i : Nat} (h : i < fs.length) : atI (fs.map TL.D.str) (i : Int) = some (.str fs[i]) := by
  rw [atI_map (by omega) (by simpa using h)]
  simp
theorem cutD_takeN {α : Type} {xs : List α} {j : Nat} (h : j ≤ xs.length) {i : Int} (e : i = (j : Int)) : cutD xs none (some i) = xs.take j := by subst e; exact cutD_take h
/-! _law_many -/
structure M3F (P : Program) (w : World) (K : PySem.W.Frag) (mg : Str → Option Value) (base : Heap) : Prop where
  fr : Free mg
  all : mg "all" = none
  web : AllFn P w K mg base
  gr : GrF P w K mg base
  lweb : FnT P w K mg base 7 (He.ga K "_law_web") (tpLWeb K)
  late : FnT P w K mg base 8 (He.ga K "_law_late") (tpLate K)
  truth : FnT P w K mg base 1 (He.ga K "_law_truth") tpTruth
  same : FnT P w K mg base 9 (He.ga K "_law_same") (tpSame K)
  mgrows : Meth K (cW K) "grows_into" (wm K "grows_into")
  grows : FnT P w K mg base 7 (wm K "grows_into") (tpGrows K)
  grown : FnT P w K mg base 7 (wm K "grown") (fun ds A Q E => ∃ x rest, ds = x :: rest ∧ rest.length ≤ sizeLine ∧ tpGrown K [x, .tup [], .tup rest] A Q E)
  glweb : GF K mg "_law_web"
  glate : GF K mg "_law_late"
  gtruth : GF K mg "_law_truth"
  gsame : GF K mg "_law_same"
def tpMany3 (K : PySem.W.Frag) : TSp := fun ds A Q E => ∃ n f, ∃ (ns fs : List Str), ds = [.ref n, .ref f] ∧ A n = some (.prim (.lst (ns.map .str))) ∧ A f = some (.prim (.lst (fs.map .str))) ∧ NamesOk ns ∧ (∀ x ∈ fs, isName x = true) ∧ (ns ++ fs).Nodup ∧ 24 - ns.length < fs.length ∧ ∀ A', TL.Sub A A' → Q (.bl true) A'
theorem sc_many3 : FnScope N_law_many ["_law_names_here", "_law_free"] (defScope s_law_many) := ⟨rfl, rfl, rfl, by decide +kernel, rfl, by decide +kernel, by decide +kernel⟩
theorem body_many3 (LF : M3F P w K mg base) : BodyT P w K mg base N_law_many (defScope s_law_many) 8 (defBody s_law_many) (tpMany3 K) := by
  intro X bd ds A Q ET hx ⟨n, f, ns, fs, e, hn, hf, hns, hfs, hnd, hfl, qq⟩
  obtain ⟨rfl, rfl, rfl, rfl, rfl, B, room, _, _⟩ := bd
  subst e
  have WF := LF.web X rfl rfl rfl rfl rfl (room.mono (by decide))
  have uS := u_eqS WF.room
  have n6 := hns.le
  have n1 := hns.pos
  have s1' : (1 : Nat) ≤ sizeLine := by decide
  have s2' : (2 : Nat) ≤ sizeLine := by decide
  refine wpb_cons (B.set (i := 2) rfl (.inl rfl) (B.call (ET := NoX) LF.lweb (room.mono (by decide)) rfl LF.glweb.g LF.glweb.k pass0 (wpa_cons (Ev.wp (B.nm (i := 0) rfl rfl (.inl rfl)) (wpa_cons (EvN.wp (evn_lst eva_nil (Nat.zero_le _)) fun r hr => wpa_nil ⟨n, r, ns, [], rfl, Sub.upd (Sub.refl A) hr _ _ hn, updA_same, hns.nd, by omega, hns.good, (fun _ h => nomatch h), fun w wl hw hwl => ?_⟩))))))
  have gW : GW (webT ns []) ns [] := GW.webT ⟨hns.nd, by omega, fun x hx => (hns.good x hx).1⟩ (fun _ h => nomatch h)
  have sA : TL.Sub A (updA (updA A r (.prim (.lst []))) w (.abs (isWeb (cW X.K) wl w (webT ns [])))) := (Sub.upd (Sub.refl A) hr).trans (Sub.upd (Sub.refl _) hw)
  have hW : updA (updA A r (.prim (.lst []))) w (.abs (isWeb (cW X.K) wl w (webT ns []))) w = some (.abs (isWeb (cW X.K) wl w (webT ns []))) := updA_same
  show WPB X _ [some (.ref n), some (.ref f), some (.ref w), none, none, none] (updA (updA A r (.prim (.lst []))) w (.abs (isWeb (cW X.K) wl w (webT ns [])))) _
  generalize updA (updA A r (.prim (.lst []))) w (.abs (isWeb (cW X.K) wl w (webT ns []))) = A1 at sA hW ⊢
  generalize webT ns [] = V at gW hW
  clear hw hwl hr
  have hn := sA _ _ hn
  have hf := sA _ _ hf
  have qq : ∀ A', TL.Sub A1 A' → Q (.bl true) A' := fun A' s => qq A' (sA.trans s)
  clear sA
  obtain ⟨gs, egs⟩ : ∃ gs, gs = fs.take (24 - ns.length) := ⟨_, rfl⟩
  obtain ⟨x, ex⟩ : ∃ x, fs[24 - ns.length]? = some x := ⟨_, List.getElem?_eq_getElem hfl⟩
  have hgl : gs.length = 24 - ns.length := by rw [egs, List.length_take]; omega
  have hsn : gs ++ [x] = fs.take (24 - ns.length + 1) := by rw [egs, take_snoc ex]
  have hmem : ∀ y ∈ gs ++ [x], y ∈ fs := fun y hy => List.mem_of_mem_take (hsn ▸ hy)
  have hnd2 : (ns ++ (gs ++ [x])).Nodup := by
    rw [List.nodup_append] at hnd ⊢
    exact ⟨hnd.1, by rw [hsn]; exact hnd.2.1.sublist (List.take_sublist _ _), fun a ha b hb => hnd.2.2 a ha b (hmem b hb)⟩
  have ei : (24 : Int) - (ns.length : Int) = ((24 - ns.length : Nat) : Int) := by omega
  have hcut : cutD (fs.map TL.D.str) none (some ((24 : Int) - (ns.length : Int))) = gs.map TL.D.str := by
    rw [cutD_takeN (j := 24 - ns.length) (by rw [List.length_map]; omega) ei, ← List.map_take, egs]
  have hix : atI (fs.map TL.D.str) ((24 : Int) - (ns.length : Int)) = some (.str x) := by
    rw [ei, atI_get hfl, (List.getElem?_eq_some_iff.mp ex).2]
  rw [← List.append_assoc, List.nodup_append] at hnd2
  have hxn : x ∉ ns ++ gs := fun z => hnd2.2.2 x z x (List.mem_singleton_self _) rfl
  have gg : goodTo (ns ++ gs) := ⟨hnd2.1, by rw [List.length_append]; omega, fun y hy => (List.mem_append.mp hy).elim (fun z => (hns.good y z).1) fun z => hfs y (hmem y (List.mem_append_left _ z))⟩
  have hxg := hfs x (hmem x (by simp))
  have l24 : (ns ++ gs).length = 24 := by rw [List.length_append]; omega
  clear hnd2 hsn hmem egs hnd hfs
  have dif : ∀ {δ : Ds} {p1 p2 p3 p4 pos : Pos} {j : Nat} {hs : starEach [Expr.Name "_law_names_here" p2] X.env = (false, eval (Expr.Name "_law_names_here" p2) X.env) :: starEach [] X.env}, δ[0]? = some (some (.ref n)) → Ev X (.BinOp (.Constant (.int 24) j p3) .Sub (.Call (.Name "len" p1) [.Name "_law_names_here" p2] [] p4) pos) δ A1 (.int ((24 : Int) - (ns.length : Int))) := fun {δ p1 p2 p3 p4 pos j hs} h => Ev.to (ev_bin ev_int (B.eB rfl LF.fr.len bt_len (eva_cons (B.nm (i := 0) rfl h (.inl rfl)) eva_nil hs) (cav_len (.inl hn)) (he := hs)) opv_sub) (by rw [List.length_map])
  refine wpb_cons (B.set (i := 3) rfl (.inl rfl) (EvN.wp (EvN.to (evn_slice (B.nm (i := 1) rfl rfl (.inl rfl)) .none (.some (dif (hs := rfl) rfl)) (.inl hf)) (by rw [hcut])) fun r hr => ?_))
  have sA := Sub.upd (o := .prim (.lst (gs.map .str))) (Sub.refl A1) hr
  have hr : updA A1 r (.prim (.lst (gs.map .str))) r = some (.prim (.lst (gs.map .str))) := updA_same
  refine wpb_cons (B.set (i := 4) rfl (.inl rfl) (Ev.wp (ev_ix (B.nm (i := 1) rfl rfl (.inl rfl)) (Ev.sub (dif (hs := rfl) rfl) sA) (ixv_list (.inl (sA _ _ hf)) (z := .str x) hix)) ?_))
  have hn := sA _ _ hn
  have hW := sA _ _ hW
  have qq : ∀ A', TL.Sub (updA A1 r (.prim (.lst (gs.map .str)))) A' → Q (.bl true) A' := fun A' s => qq A' (sA.trans s)
  show WPB X _ [some (.ref n), some (.ref f), some (.ref w), some (.ref r), some (.str x), none] (updA A1 r (.prim (.lst (gs.map .str)))) _
  clear sA dif hf
  generalize updA A1 r (.prim (.lst (gs.map .str))) = A2 at hn hW hr qq ⊢
  refine wpb_cons (wps_ifE (k := false) (EvT.to (et_neWN (α := Str) (xs := ns ++ gs) (ys := ns ++ gs) (EvWb.list WF B.toBC rfl (grown_wb LF.gr (room.mono (by decide)) (B.nm (i := 2) rfl rfl (.inl rfl)) hW gW (B.toBC.etup rfl LF.gr.tup (B.nm (i := 3) rfl rfl (.inl rfl)) (.inl hr)) gg)) (EvN.to (evn_cat0 (B.nm (i := 0) rfl rfl (.inl rfl)) (B.nm (i := 3) rfl rfl (.inl rfl)) hn hr (by rw [List.length_map, List.length_map, ← List.length_append, l24]; decide)) (by rw [← List.map_append]; rfl)) uS) (by simp)) (fun z => Bool.noConfusion z) fun _ => wpb_nil ?_)
  obtain ⟨n0, nr, en⟩ : ∃ n0 nr, ns = n0 :: nr := by
    cases h : ns with
    | nil => rw [h] at n1; cases n1
    | cons a b => exact ⟨a, b, rfl⟩
  have ix0 : atI (ns.map TL.D.str) 0 = some (.str n0) := by rw [en]; exact atI_pos (xs := (n0 :: nr).map TL.D.str) (i := 0) (by decide) (by simp)
  have hn0 : isName n0 = true := (hns.good n0 (by rw [en]; simp)).1
  refine wpb_cons (B.for_ (wpi_list (EvN.wp (evn_lst (ds := [.tup [.str x], .tup [.str x, .str "Z"], .tup [.str x, .str n0]]) (eva_cons (ev_tup (eva_cons ((B.nm (i := 4) rfl rfl (.inl rfl))) eva_nil) (show 1 ≤ sizeLine by decide)) (eva_cons (ev_tup (eva_cons ((B.nm (i := 4) rfl rfl (.inl rfl))) (eva_cons ev_str eva_nil)) (show 2 ≤ sizeLine by decide)) (eva_cons (ev_tup (eva_cons ((B.nm (i := 4) rfl rfl (.inl rfl))) (eva_cons (ev_ix (B.nm (i := 0) rfl rfl (.inl rfl)) ev_int (ixv_list (.inl hn) ix0)) eva_nil)) (show 2 ≤ sizeLine by decide)) eva_nil))) (show 3 ≤ sizeLine by decide)) fun u hu2 => ?_)))
  have sN := Sub.upd (o := .prim (.lst [.tup [.str x], .tup [.str x, .str "Z"], .tup [.str x, .str n0]])) (Sub.refl A2) hu2
  have hn := sN _ _ hn
  have hW := sN _ _ hW
  have hr := sN _ _ hr
  have qq : ∀ A', TL.Sub (updA A2 u (.prim (.lst [.tup [.str x], .tup [.str x, .str "Z"], .tup [.str x, .str n0]]))) A' → Q (.bl true) A' := fun A' s => qq A' (sN.trans s)
  have hu2 : updA A2 u (.prim (.lst [.tup [.str x], .tup [.str x, .str "Z"], .tup [.str x, .str n0]])) u = some (.prim (.lst [.tup [.str x], .tup [.str x, .str "Z"], .tup [.str x, .str n0]])) := updA_same
  clear sN
  generalize updA A2 u (.prim (.lst [.tup [.str x], .tup [.str x, .str "Z"], .tup [.str x, .str n0]])) = A3 at hn hW hr hu2 qq ⊢
  refine ⟨u, [.tup [.str x], .tup [.str x, .str "Z"], .tup [.str x, .str n0]], rfl, hu2, fun i δ' E1 => E1 = A3 ∧ ∃ v5 : Option TL.D, δ' = [some (.ref n), some (.ref f), some (.ref w), some (.ref r), some (.str x), v5], ⟨rfl, none, rfl⟩, fun _ _ _ _ ⟨eA, _⟩ => by rw [eA]; exact hu2, fun i δ' E1 hi ⟨eA, v5, eδ⟩ => ?_, fun δ' E1 ⟨eA, v5, eδ⟩ => ?_⟩
  · have eA := eA.symm
    subst eA eδ
    obtain ⟨post, e0, hp⟩ : ∃ post : List Str, ([.tup [.str x], .tup [.str x, .str "Z"], .tup [.str x, .str n0]] : List TL.D)[i]? = some (.tup ((x :: post).map .str)) ∧ (∀ y ∈ post, y.length ≤ sizeLine) ∧ post.length ≤ 1 := by
      match i, hi with
      | 0, _ => exact ⟨[], rfl, (fun _ h => nomatch h), Nat.zero_le _⟩
      | 1, _ => exact ⟨["Z"], rfl, (fun y h => by rw [List.mem_singleton] at h; subst h; decide), Nat.le_refl _⟩
      | 2, _ => exact ⟨[n0], rfl, (fun y h => by rw [List.mem_singleton] at h; subst h; exact Nat.le_trans (isName_len hn0).2 (by decide)), Nat.le_refl _⟩
      | i + 3, h => exact absurd h (by simp)
    refine WPG.to (d' := .tup ((x :: post).map .str)) (B.tn (i := 5) rfl (.inl rfl) ?_) (getD_of e0)
    refine wpb_cons (wps_ifE (k := false) (EvT.to (et_neWR (α := Str) (xs := ns) (ys := ns) ?_ (B.nm (i := 0) rfl rfl (.inl rfl)) hn uS) (by simp)) (fun z => Bool.noConfusion z) fun _ => wpb_nil ?_)
    · exact fun B1 k1 => (B.call (ET := NoX) LF.late (room.mono (by decide)) rfl LF.glate.g LF.glate.k pass0 (EvA.wp (eva_cons (Ev.sub (B.nm (i := 2) rfl rfl (.inl rfl)) k1) (eva_cons (Ev.sub (Ev.to (ev_bin (B.toBC.etup rfl LF.gr.tup (B.nm (i := 3) rfl rfl (.inl rfl)) (.inl hr)) (B.nm (i := 5) rfl rfl (.inl rfl)) (opv_catT (by rw [List.length_map, List.length_map, hgl]; simp only [List.length_cons]; exact Nat.le_trans (show _ ≤ 26 by omega) (by decide)))) (by rw [← List.map_append])) k1) eva_nil)) ⟨w, wl, V, ns, [], gs, x, post, rfl, k1 _ _ hW, gW, gg, l24, hxg, hxn, hp.1, fun q A' s hq => ⟨q, rfl, s, hq⟩⟩))
    exact wpb_nil ⟨_, Vw.refl _, rfl, _, rfl⟩
  have eA := eA.symm
  subst eA eδ
  exact wpb_cons (wps_ret (Ev.wp ev_bl (RV.mk (qq _ (Sub.refl _)))))
end TL
/-! law k03: _law_slow, _law_empty -/
namespace TL
open PySem PySem.Spec PyProof.Rows L2
variable {P : Program} {w : World} {K : PySem.W.Frag} {mg : Str → Option Value} {base : Heap} {k : Nat}
theorem path_nil {a x : Str} : Path [] a x ↔ x = a := by
  constructor
  · intro h
    cases h with
    | refl => rfl
    | step _ m => exact nomatch m
  · intro h
    subst h
    exact .refl _
theorem cutD_dropN {α : Type} {xs : List α} {j : Nat} (h : j ≤ xs.length) {i : Int} (e : i = (j : Int)) : cutD xs (some i) none = xs.drop j := by
  subst e
  unfold cutD
  rw [HT.sIx_nat, HT.sIx_none, Nat.min_eq_left h, ← List.length_drop, List.take_length]
theorem grows_iff {W V : WebD} {ns ms : List Str} {ts us : List (Str × Str)} (gW : GW W ns ts) (gV : GW V ms us) : growsB W V = true ↔ ∀ a ∈ ns, a ∈ ms ∧ ∀ x, Path ts a x → Path us a x := by
  unfold growsB
  rw [Bool.and_eq_true_iff, List.all_eq_true, List.all_eq_true, gW.pp, gV.pp]
  constructor
  · intro ⟨h1, h2⟩ a ha
    have hm : a ∈ ms := of_decide_eq_true (h1 a ha)
    refine ⟨hm, fun x hx => ?_⟩
    have h3 := h2 a ha
    rw [List.all_eq_true] at h3
    exact (gV.path hm x).mp (of_decide_eq_true (h3 x ((gW.path ha x).mpr hx)))
  · intro h
    refine ⟨fun a ha => decide_eq_true (h a ha).1, fun a ha => ?_⟩
    rw [List.all_eq_true]
    exact fun x hx => decide_eq_true ((gV.path (h a ha).1 x).mpr ((h a ha).2 x ((gW.path ha x).mp hx)))
theorem len_one {l : List Str} {a : Str} (nd : l.Nodup) (h : a ∈ l) : l.length = 1 ↔ ∀ x ∈ l, x = a := by
  match l, nd, h with
  | [b], _, h => rw [List.mem_singleton] at h; subst h; simp
  | b :: c :: r, nd, h =>
    constructor
    · intro z; simp at z
    · intro z
      have h1 := z b (by simp)
      have h2 := z c (by simp)
      rw [h1, h2] at nd
      simp at nd
def tpSlow (K : PySem.W.Frag) : TSp := fun ds A Q E => ∃ w wl W n q d, ∃ (ns : List Str) (ts : List (Str × Str)) (R : Str → List Str), ds = [.ref w, .ref n, .ref q, .ref d] ∧ A w = some (.abs (isWeb (cW K) wl w W)) ∧ GW W ns ts ∧ (∀ t ∈ ts, t.1 ∈ ns ∧ t.2 ∈ ns) ∧ NamesOk ns ∧ ts.length ≤ 100 ∧ A n = some (.prim (.lst (ns.map .str))) ∧ A q = some (.prim (.lst (ts.map pr))) ∧ DictL A d ns R ∧ (∀ n ∈ ns, (R n).Nodup ∧ ∀ x, x ∈ R n ↔ Path ts n x) ∧ ∀ A', TL.Sub A A' → Q (.bl true) A'
theorem sc_slow : FnScope N_law_slow ["_law_web_here", "_law_names_here", "_law_ties_here", "_law_reach_here"] (defScope s_law_slow) := ⟨rfl, rfl, rfl, by decide +kernel, rfl, by decide +kernel, by decide +kernel⟩
theorem body_slow (LF : M3F P w K mg base) : BodyT P w K mg base N_law_slow (defScope s_law_slow) 9 (defBody s_law_slow) (tpSlow K) := by
  intro X bd ds A Q ET hx ⟨w, wl, W, n, q, d, ns, ts, R, e, hw, gW, tin, hns, t100, hn, hq, hD, hR, qq⟩
  obtain ⟨rfl, rfl, rfl, rfl, rfl, B, room, _, _⟩ := bd
  subst e
  have WF := LF.web X rfl rfl rfl rfl rfl (room.mono (by decide))
  have hu := room.units
  have u1 : X.A.units + 1 < cLine := by omega
  have uI : X.A.units + PySem.W.Datum.depth Int < cLine := by show X.A.units + 0 < _; omega
  have n6 := hns.le
  have n1 := hns.pos
  obtain ⟨n0, nr, en⟩ : ∃ n0 nr, ns = n0 :: nr := by
    cases h : ns with
    | nil => rw [h] at n1; cases n1
    | cons a b => exact ⟨a, b, rfl⟩
  have nd := hns.nd
  have c1 : cutD (ns.map TL.D.str) none (some 1) = [n0].map TL.D.str := by rw [en]; exact (cutD_takeN (j := 1) (by simp) rfl).trans rfl
  have c2 : cutD (ns.map TL.D.str) (some 1) none = nr.map TL.D.str := by
    rw [en]
    exact (cutD_dropN (xs := (n0 :: nr).map TL.D.str) (j := 1) (by simp) rfl).trans rfl
  have hg0 := hns.good n0 (by rw [en]; simp)
  have g2 : ∀ {A : AH} {a b : Addr} {o u : AO}, A a = some u → A b = none → updA A b o a = some u := fun h h2 => Sub.upd (Sub.refl _) h2 _ _ h
  refine wpb_cons (B.set (i := 4) rfl (.inl rfl) (B.call (ET := NoX) LF.lweb (room.mono (by decide)) rfl LF.glweb.g LF.glweb.k pass0 (wpa_cons (EvN.wp (EvN.to (evn_slice (B.nm (i := 1) rfl rfl (.inl rfl)) .none (.some ev_int) (.inl hn)) (by rw [c1])) fun r hr => wpa_cons (EvN.wp (evn_lst eva_nil (Nat.zero_le _)) fun r2 hr2 => wpa_nil ⟨r, r2, [n0], [], rfl, g2 updA_same hr2, updA_same, by simp, (show 1 ≤ 24 by decide), (fun x hx => by rw [List.mem_singleton] at hx; rw [hx]; exact hg0), (fun _ h => nomatch h), fun s sl hs hsl => ?_⟩)))))
  have sB := (Sub.upd (o := .prim (.lst ([n0].map .str))) (Sub.refl A) hr).trans (Sub.upd (o := .prim (.lst [])) (Sub.refl _) hr2)
  have gV0 : GW (webT [n0] []) [n0] [] := GW.webT ⟨by simp, (show 1 ≤ 24 by decide), fun x hx => by rw [List.mem_singleton] at hx; rw [hx]; exact hg0.1⟩ (fun _ h => nomatch h)
  have hsA : A s = none := sB.none hs
  have nsw : s ≠ w := fun z => by rw [z, hw] at hsA; cases hsA
  show WPB X _ [some (.ref w), some (.ref n), some (.ref q), some (.ref d), some (.ref s), none, none, none] (updA (updA (updA A r (.prim (.lst ([n0].map .str)))) r2 (.prim (.lst []))) s (.abs (isWeb (cW X.K) sl s (webT [n0] [])))) _
  have sA := Sub.upd (o := .abs (isWeb (cW X.K) sl s (webT [n0] []))) sB hsA
  have hS : updA (updA (updA A r (.prim (.lst ([n0].map .str)))) r2 (.prim (.lst []))) s (.abs (isWeb (cW X.K) sl s (webT [n0] []))) s = some (.abs (isWeb (cW X.K) sl s (webT [n0] []))) := updA_same
  generalize updA (updA (updA A r (.prim (.lst ([n0].map .str)))) r2 (.prim (.lst []))) s (.abs (isWeb (cW X.K) sl s (webT [n0] []))) = A1 at sA hS ⊢
  generalize webT [n0] [] = V0 at gV0 hS
  clear hr hr2 hs hsl sB
  have f1 : growsB W V0 = decide ((ns.length : Int) = 1) := by
    rw [Bool.eq_iff_iff, grows_iff gW gV0, decide_eq_true_iff]
    rw [en]
    constructor
    · intro h
      cases hr : nr with
      | nil => rfl
      | cons b r =>
        have := (h b (by rw [hr]; simp)).1
        rw [List.mem_singleton] at this
        rw [en, hr, this] at nd
        simp at nd
    · intro h a ha
      have h0 : nr = [] := by
        cases nr with
        | nil => rfl
        | cons b r => simp only [List.length_cons] at h; omega
      subst h0
      have e : a = n0 := List.mem_singleton.mp ha
      subst e
      refine ⟨List.mem_singleton_self _, fun x hx => ?_⟩
      have := hx.inn (ps := ns) (by rw [en]; simp) tin
      rw [en, List.mem_singleton] at this
      rw [this]; exact .refl _
  have eln : ∀ {A1 : AH} {v5 v6 v7 : Option TL.D} {p1 p2 p3 : Pos} {hs : starEach [Expr.Name "_law_names_here" p2] X.env = (false, eval (Expr.Name "_law_names_here" p2) X.env) :: starEach [] X.env}, A1 n = some (.prim (.lst (ns.map .str))) → Ev X (.Call (.Name "len" p1) [.Name "_law_names_here" p2] [] p3) [some (.ref w), some (.ref n), some (.ref q), some (.ref d), some (.ref s), v5, v6, v7] A1 (.int ns.length) := fun {A1 v5 v6 v7 p1 p2 p3 hs} h => Ev.to (B.eB rfl LF.fr.len bt_len (eva_cons (B.nm (i := 1) rfl rfl (.inl rfl)) eva_nil hs) (cav_len (.inl h)) (he := hs)) (by rw [List.length_map])
  refine wpb_cons (wps_ifE (k := false) (et_not (k := true) (et_val ((B.ecall LF.truth (room.mono (by decide)) rfl LF.gtruth.g LF.gtruth.k (eva_cons (grows_ev WF.G LF.mgrows LF.grows (room.mono (by decide)) (B.nm (i := 0) rfl rfl (.inl rfl)) (sA _ _ hw) (B.nm (i := 4) rfl rfl (.inl rfl)) hS (fun z => (nsw z.symm).elim) gW.good) (eva_cons (ev_cmp (eln (hs := rfl) (sA _ _ hn)) ev_int (opv_eq (α := Int) uI) rfl) eva_nil)) (fun B1 k Q1 q1 => ⟨_, _, rfl, by rw [f1, decide_eq_true rfl]; exact q1⟩))))) (fun z => Bool.noConfusion z) fun _ => wpb_nil ?_)
  -- welcome
  have ndr : (n0 :: nr).Nodup := en ▸ nd
  have hnrA : ∀ {V' : WebD} {r : Addr}, A1 r = none → TL.Sub A (updA (updA A1 r (.prim (.lst (nr.map .str)))) s (.abs (isWeb (cW X.K) sl s V'))) := fun h => Sub.upd (Sub.upd sA (sA.none h)) hsA
  refine wpb_cons (B.for_ (wpi_list (EvN.wp (EvN.to (evn_slice (B.nm (i := 1) rfl rfl (.inl rfl)) (.some ev_int) .none (.inl (sA _ _ hn))) (by rw [c2])) fun r hr => ⟨r, nr.map TL.D.str, rfl, updA_same, fun i δ' A' => ∃ (V' : WebD) (v5 : Option TL.D), GW V' ([n0] ++ nr.take i) [] ∧ A' = updA (updA A1 r (.prim (.lst (nr.map .str)))) s (.abs (isWeb (cW X.K) sl s V')) ∧ δ' = [some (.ref w), some (.ref n), some (.ref q), some (.ref d), some (.ref s), v5, none, none], ⟨V0, none, by rw [List.take_zero, List.append_nil]; exact gV0, (upd_id (Sub.upd (Sub.refl A1) hr _ _ hS)).symm, rfl⟩, fun i δ' A' _ ⟨_, _, _, eA, _⟩ => ?_, fun i δ' A' hi ⟨V', v5, g, eA, eδ⟩ => ?_, fun δ' A' ⟨V', v5, g, eA, eδ⟩ => ?_⟩)))
  · have : r ≠ s := fun z => by rw [z, hS] at hr; cases hr
    show A' r = _
    rw [eA, updA_ne this]; exact updA_same
  · subst eA eδ
    have hi' : i < nr.length := by simpa using hi
    refine WPG.to (B.tn (i := 5) rfl (.inl rfl) ?_) (getD_map hi')
    have hmem := (hns.good _ (by rw [en]; exact List.mem_cons_of_mem _ (List.getElem_mem hi'))).1
    have etk : [n0] ++ nr.take (i + 1) = ([n0] ++ nr.take i) ++ [nr[i]] := by rw [take_snoc (List.getElem?_eq_getElem hi'), List.append_assoc]
    have hnot : nr[i] ∉ [n0] ++ nr.take i := by
      have := List.nodup_cons.mp ndr
      intro z
      rcases List.mem_append.mp z with z | z
      · rw [List.mem_singleton] at z
        exact this.1 (z ▸ List.getElem_mem hi')
      · exact not_in_take this.2 hi' z
    have hlen : ([n0] ++ nr.take i).length < 24 := by
      rw [List.length_append, List.length_take]
      rw [en] at n6
      simp only [List.length_cons] at n6 ⊢
      simp only [List.length_nil]
      omega
    generalize nr[i] = x at hmem etk hnot
    have gp := g.pp
    refine wpb_cons (wps_expr (wpe_meth (ET := NoX) WF.G.cls WF.G.mwel WF.wel (room.mono (by decide)) pass0 (Ev.wp (B.nm (i := 4) rfl rfl (.inl rfl)) ⟨s, rfl, web_insT updA_same fun _ _ _ => rfl, EvA.wp (eva_cons ((B.nm (i := 5) rfl rfl (.inl rfl))) eva_nil) ⟨s, sl, V', x, rfl, updA_same, Nat.le_trans (isName_len hmem).2 (by decide), g.good.len, fun _ _ _ => wpb_nil ⟨_, Vw.refl _, V'.add x, some (.str x), by rw [etk]; exact g.add hmem hnot hlen, by rw [updA_updA], rfl⟩, fun h => ?_, fun _ h => ?_, fun _ _ h => ?_⟩⟩)))
    · rw [hmem] at h; cases h
    · rw [gp] at h; exact (hnot h).elim
    · rw [gp] at h; omega
  subst eA eδ
  rw [List.length_map, List.take_length] at g
  have g : GW V' ns [] := by rw [en]; exact g
  have sA := hnrA (V' := V') hr
  have hS : updA (updA A1 r (.prim (.lst (nr.map .str)))) s (.abs (isWeb (cW X.K) sl s V')) s = some (.abs (isWeb (cW X.K) sl s V')) := updA_same
  generalize updA (updA A1 r (.prim (.lst (nr.map .str)))) s (.abs (isWeb (cW X.K) sl s V')) = A2 at sA hS ⊢
  clear hr hnrA gV0 f1 c1 c2 ndr
  have f2 : growsB W V' = ns.all fun x => decide (((R x).length : Int) = 1) := by
    rw [Bool.eq_iff_iff, grows_iff gW g, List.all_eq_true]
    constructor
    · intro h a ha
      have h1 := (len_one (hR a ha).1 (((hR a ha).2 a).mpr (.refl a))).mpr fun x hx => path_nil.mp ((h a ha).2 x (((hR a ha).2 x).mp hx))
      rw [decide_eq_true_iff]; omega
    · intro h a ha
      have h1 : (R a).length = 1 := by have := of_decide_eq_true (h a ha); omega
      exact ⟨ha, fun x hx => path_nil.mpr ((len_one (hR a ha).1 (((hR a ha).2 a).mpr (.refl a))).mp h1 x (((hR a ha).2 x).mpr hx))⟩
  have f3 : growsB V' W = true := (grows_iff g gW).mpr fun a ha => ⟨ha, fun x hx => by rw [path_nil.mp hx]; exact .refl _⟩
  have hD2 := hD.sub sA
  obtain ⟨ad, hd, had⟩ := hD2
  refine wpb_cons (B.set (i := 6) rfl (.inl rfl) (Ev.wp (d := .bl (ns.all fun x => decide (((R x).length : Int) = 1))) (B.toBC.eBN rfl LF.all bt_all (BC.elc (own := [("_law_name_here", 5)]) (ys := ns) (en := TL.D.str) .no (fun _ => true) (fun x => .bl (decide (((R x).length : Int) = 1))) B (by decide +kernel) (j := 5) rfl rfl (by decide) (evi_list (B.nm (i := 1) rfl rfl (.inl rfl)) (sA _ _ hn)) (Nat.le_trans n6 (by decide)) (fun _ _ => rfl) fun x hx' _ st H0 C cl fp => ev_cmp (Ev.to (B.toBC.blk.eB rfl LF.fr.len bt_len (eva_cons (ev_dget (k := .inr x) u1 (B.toBC.blk.nm (i := 3) rfl rfl (.inr (.inr rfl))) (B.toBC.blk.nm (i := 5) rfl rfl (.inl rfl)) hd (by rw [valD_web, if_pos hx'])) eva_nil) (cav_len (.inl (had x hx')))) (by rw [List.length_map]; rfl)) ev_int (opv_eq (α := Int) uI) rfl) fun A1 p sA hp => ?_) ?_))
  · have e : (ns.filter fun _ => true) = ns := List.filter_eq_self.mpr fun _ _ => rfl
    rw [e, show (ns.map fun x => (TL.D.bl (decide (((R x).length : Int) = 1)))) = (ns.map fun x => decide (((R x).length : Int) = 1)).map TL.D.bl by rw [List.map_map]; rfl] at hp
    have z1 := cav_all B.calm (.inl hp)
    rw [List.all_map] at z1
    exact z1
  show WPB X _ [some (.ref w), some (.ref n), some (.ref q), some (.ref d), some (.ref s), v5, some (.bl (ns.all fun x => decide (((R x).length : Int) = 1))), none] A2 _
  refine wpb_cons (wps_ifE (k := false) (et_w (ew_or (k := false) (l := false) (et_not (k := true) (et_val ((B.ecall LF.truth (room.mono (by decide)) rfl LF.gtruth.g LF.gtruth.k (eva_cons (grows_ev WF.G LF.mgrows LF.grows (room.mono (by decide)) (B.nm (i := 0) rfl rfl (.inl rfl)) (sA _ _ hw) (B.nm (i := 4) rfl rfl (.inl rfl)) hS (fun z => (nsw z.symm).elim) gW.good) (eva_cons ((B.nm (i := 6) rfl rfl (.inl rfl))) eva_nil)) (fun B1 k Q1 q1 => ⟨_, _, rfl, by rw [f2, decide_eq_true rfl]; exact q1⟩))))) fun _ => ew_or1 (EvT.to (et_notB (grows_ev WF.G LF.mgrows LF.grows (room.mono (by decide)) (B.nm (i := 4) rfl rfl (.inl rfl)) hS (B.nm (i := 0) rfl rfl (.inl rfl)) (sA _ _ hw) (fun z => (nsw z).elim) g.good)) (by rw [f3]; rfl)))) (fun z => Bool.noConfusion z) fun _ => wpb_nil ?_)
  -- ties
  have sU : ∀ V', TL.Sub A (updA A2 s (.abs (isWeb (cW X.K) sl s V'))) := fun V' => Sub.upd sA hsA
  refine wpb_cons (B.for_ (wpi_list (Ev.wp (B.nm (i := 2) rfl rfl (.inl rfl)) ⟨q, _, rfl, sA _ _ hq, fun i δ' A' => ∃ (V2 : WebD) (v7 : Option TL.D), GW V2 ns (ts.take i) ∧ A' = updA A2 s (.abs (isWeb (cW X.K) sl s V2)) ∧ δ' = [some (.ref w), some (.ref n), some (.ref q), some (.ref d), some (.ref s), v5, some (.bl (ns.all fun x => decide (((R x).length : Int) = 1))), v7], ⟨V', none, by rw [List.take_zero]; exact g, (upd_id hS).symm, rfl⟩, fun i δ' A' _ ⟨_, _, _, eA, _⟩ => by rw [eA]; exact sU _ _ _ hq, fun i δ' A' hi ⟨V2, v7, g3, eA, eδ⟩ => ?_, fun δ' A' ⟨V2, v7, g3, eA, eδ⟩ => ?_⟩)))
  · subst eA eδ
    have hi' : i < ts.length := by simpa using hi
    have hmem := tin _ (List.getElem_mem hi')
    have etk : ts.take (i + 1) = ts.take i ++ [ts[i]] := take_snoc (List.getElem?_eq_getElem hi')
    refine WPG.to (B.tn (i := 7) rfl (.inl rfl) ?_) (getD_map hi')
    rcases ht : ts[i] with ⟨t1, t2⟩
    rw [ht] at hmem etk
    have d7 : ∀ {A : AH} {pos : Pos}, Ev X (.Name "_law_tie" pos) [some (.ref w), some (.ref n), some (.ref q), some (.ref d), some (.ref s), v5, some (.bl (ns.all fun x => decide (((R x).length : Int) = 1))), some (pr (t1, t2))] A (.tup [.str t1, .str t2]) := (B.nm (i := 7) rfl rfl (.inl rfl))
    have gg := g3.good
    refine wpb_cons (wps_putO (ET := NoX) WF.M.set WF.G.seq WF.set (room.mono (by decide)) pass0 (Ev.wp ev_bl (Ev.wp (B.nm (i := 4) rfl rfl (.inl rfl)) (Ev.wp (ev_tup (eva_cons (ev_ix d7 ev_int (ixv_tup (z := .str t1) rfl)) (eva_cons (ev_ix d7 ev_int (ixv_tup (z := .str t2) rfl)) eva_nil)) (show 2 ≤ sizeLine by decide)) ⟨s, rfl, web_insC updA_same, s, sl, V2, t1, t2, true, rfl, updA_same, ⟨gg.nd, gg.len, gg.rnd, gg.tnd, gg.tin⟩, fun _ _ _ => ?_, fun h => (h (by rw [g3.pp]; exact hmem.1)).elim, fun _ h => (h (by rw [g3.pp]; exact hmem.2)).elim, fun _ _ h => nomatch h⟩))))
    exact wpb_nil ⟨_, Vw.refl _, V2.tie t1 t2, some (pr (t1, t2)), by rw [etk]; exact g3.tie hmem.1 hmem.2, by rw [updA_updA], rfl⟩
  subst eA eδ
  rw [List.length_map, List.take_length] at g3
  have sA := sU V2
  have hS : updA A2 s (.abs (isWeb (cW X.K) sl s V2)) s = some (.abs (isWeb (cW X.K) sl s V2)) := updA_same
  clear sU hd had
  generalize updA A2 s (.abs (isWeb (cW X.K) sl s V2)) = A3 at sA hS ⊢
  have f4 : growsB W V2 = true := (grows_iff gW g3).mpr fun a ha => ⟨ha, fun x hx => hx⟩
  have f5 : growsB V2 W = true := (grows_iff g3 gW).mpr fun a ha => ⟨ha, fun x hx => hx⟩
  refine wpb_cons (wps_ret (Ev.wp (d := .bl true) (ev_and (k := true) (l := true) (Ev.to (ev_isB (grows_ev WF.G LF.mgrows LF.grows (room.mono (by decide)) (B.nm (i := 0) rfl rfl (.inl rfl)) (sA _ _ hw) (B.nm (i := 4) rfl rfl (.inl rfl)) hS (fun z => (nsw z.symm).elim) gW.good)) (by rw [f4]; rfl)) fun _ => ev_and (k := true) (l := true) (Ev.to (ev_isB (grows_ev WF.G LF.mgrows LF.grows (room.mono (by decide)) (B.nm (i := 4) rfl rfl (.inl rfl)) hS (B.nm (i := 0) rfl rfl (.inl rfl)) (sA _ _ hw) (fun z => (nsw z).elim) g3.good)) (by rw [f5]; rfl)) fun _ => ev_one (same_ev B.toBC LF.same LF.gsame (room.mono (by decide)) rfl (Ev.toWb (B.nm (i := 4) rfl rfl (.inl rfl)) hS g3) (Ev.toW (B.nm (i := 1) rfl rfl (.inl rfl)) (sA _ _ hn)) (Ev.toW (B.nm (i := 2) rfl rfl (.inl rfl)) (sA _ _ hq)) tin t100)) (RV.mk (qq _ sA))))
def tpEmpty (K : PySem.W.Frag) : TSp := fun ds A Q E => ∃ w wl W, ∃ (ns : List Str) (ts : List (Str × Str)) (x : Str), ds = [.ref w, .str x] ∧ A w = some (.abs (isWeb (cW K) wl w W)) ∧ GW W ns ts ∧ 1 ≤ ns.length ∧ isName x = true ∧ ∀ A', TL.Sub A A' → Q (.bl true) A'
theorem sc_empty : FnScope N_law_empty ["_law_web_here", "_law_name_here"] (defScope s_law_empty) := ⟨rfl, rfl, rfl, by decide +kernel, rfl, by decide +kernel, by decide +kernel⟩
theorem body_empty (LF : M3F P w K mg base) : BodyT P w K mg base N_law_empty (defScope s_law_empty) 9 (defBody s_law_empty) (tpEmpty K) := by
  intro X bd ds A Q ET hx ⟨w, wl, W, ns, ts, x, e, hw, gW, n1, nx, qq⟩
  obtain ⟨rfl, rfl, rfl, rfl, rfl, B, room, _, _⟩ := bd
  subst e
  have WF := LF.web X rfl rfl rfl rfl rfl (room.mono (by decide))
  have uS := u_eqS WF.room
  have g0 : GW (webOf []) [] [] := GW.webOf ⟨List.nodup_nil, Nat.zero_le _, fun _ h => nomatch h⟩
  refine wpb_cons (B.set (i := 2) rfl (.inl rfl) (wpe_web B.toBC WF.G WF.M WF.ini (room.mono (by decide)) rfl fun s sl hs hsl _ => ?_))
  have nsw : s ≠ w := fun z => by rw [z, hw] at hs; cases hs
  have sA := Sub.upd (o := .abs (isWeb (cW X.K) sl s (webOf []))) (Sub.refl A) hs
  have hS : updA A s (.abs (isWeb (cW X.K) sl s (webOf []))) s = some (.abs (isWeb (cW X.K) sl s (webOf []))) := updA_same
  show WPB X _ [some (.ref w), some (.str x), some (.ref s)] (updA A s (.abs (isWeb (cW X.K) sl s (webOf [])))) _
  generalize updA A s (.abs (isWeb (cW X.K) sl s (webOf []))) = A1 at sA hS ⊢
  have hw := sA _ _ hw
  have f1 : growsB (webOf []) W = true := (grows_iff g0 gW).mpr fun _ h => nomatch h
  have f2 : growsB (webOf []) (webOf []) = true := (grows_iff g0 g0).mpr fun _ h => nomatch h
  have f3 : growsB W (webOf []) = false := by
    cases h : growsB W (webOf []) with
    | false => rfl
    | true =>
      have := (grows_iff gW g0).mp h
      cases ns with
      | nil => cases n1
      | cons a r => exact nomatch (this a (by simp)).1
  refine wpb_cons (wps_ifE (k := false) (et_w (ew_or (k := false) (l := false) (EvT.to (et_notB (grows_ev WF.G LF.mgrows LF.grows (room.mono (by decide)) (B.nm (i := 2) rfl rfl (.inl rfl)) hS (B.nm (i := 0) rfl rfl (.inl rfl)) hw (fun z => (nsw z).elim) g0.good)) (by rw [f1]; rfl)) fun _ => ew_or1 (EvT.to (et_notB (ev_drop fun B1 k1 => wpe_meth (ET := NoX) WF.G.cls LF.mgrows LF.grows (room.mono (by decide)) pass0 (Ev.wp (Ev.sub (B.nm (i := 2) rfl rfl (.inl rfl)) k1) ⟨s, rfl, web_insT (k1 _ _ hS) fun _ _ _ => rfl, wpa_cons (wpe_web B.toBC WF.G WF.M WF.ini (room.mono (by decide)) rfl fun v vl hv hvl _ => wpa_nil ⟨s, sl, webOf [], v, vl, webOf [], rfl, Sub.upd (Sub.refl B1) hv _ _ (k1 _ _ hS), updA_same, (fun _ => rfl), ⟨g0.good.nd, g0.good.len, g0.good.rnd, g0.good.tnd, g0.good.tin⟩, rfl, Sub.upd (Sub.refl B1) hv⟩)⟩))) (by rw [f2]; rfl)))) (fun z => Bool.noConfusion z) fun _ => wpb_nil ?_)
  refine wpb_cons (wps_ifE (k := false) (et_w (ew_or (k := false) (l := false) (EvT.to (et_notB (grows_ev WF.G LF.mgrows LF.grows (room.mono (by decide)) (B.nm (i := 0) rfl rfl (.inl rfl)) hw (B.nm (i := 2) rfl rfl (.inl rfl)) hS (fun z => (nsw z.symm).elim) gW.good)) (by rw [f3]; rfl)) fun _ => ew_or1 (EvT.to (et_neWN (α := Str) (xs := []) (ys := []) (EvWb.list (ns := []) (ts := []) WF B.toBC rfl (fun B1 k1 Q1 q1 => wpe_meth0 (ET := NoX) WF.G.cls LF.gr.m LF.grown (room.mono (by decide)) pass0 (Ev.wp (Ev.sub (B.nm (i := 2) rfl rfl (.inl rfl)) k1) ⟨s, rfl, web_insT (k1 _ _ hS) (fun _ _ _ => rfl), .ref s, [], rfl, Nat.zero_le _, s, sl, webOf [], [], [], [], [], rfl, k1 _ _ hS, g0, (fun _ h => nomatch h), fun _ _ V2 w2 wl2 gW2 hw2 hwl2 => q1 w2 wl2 V2 _ (Sub.upd (Sub.refl _) hw2) updA_same gW2, fun pre n post e => absurd (congrArg List.length e) (by simp), fun _ pre t post e => absurd (congrArg List.length e) (by simp)⟩))) (evn_lst eva_nil (Nat.zero_le _)) uS) (by simp)))) (fun z => Bool.noConfusion z) fun _ => wpb_nil ?_)
  have gx : goodTo ([] ++ [x]) := ⟨by simp, (show 1 ≤ 24 by decide), fun y hy => by rw [List.nil_append, List.mem_singleton] at hy; rw [hy]; exact nx⟩
  refine wpb_cons (wps_ret (Ev.wp (d := .bl true) (ev_and (k := true) (l := true) (same_ev (ns := [x]) (ts := []) B.toBC LF.same LF.gsame (room.mono (by decide)) rfl (grown_wb (fs := [x]) LF.gr (room.mono (by decide)) (B.nm (i := 2) rfl rfl (.inl rfl)) hS g0 (ev_tup (eva_cons ((B.nm (i := 1) rfl rfl (.inl rfl))) eva_nil) (show 1 ≤ sizeLine by decide)) gx) (EvN.toW (evn_lst (ds := [.str x]) (eva_cons ((B.nm (i := 1) rfl rfl (.inl rfl))) eva_nil) (show 1 ≤ sizeLine by decide))) (EvN.toW (evn_lst eva_nil (Nat.zero_le _))) (fun _ h => nomatch h) (Nat.zero_le _)) fun _ => ev_one (Ev.to (ev_eqWN (α := Str) (xs := []) (ys := []) (EvWb.list (ns := []) WF B.toBC rfl (Ev.toWb (B.nm (i := 2) rfl rfl (.inl rfl)) hS g0)) (evn_lst eva_nil (Nat.zero_le _)) uS) (by simp))) (RV.mk (qq _ sA))))
end TL
/-! law k03: _law_names_refused, _law_apart -/
namespace TL
open PySem PySem.Spec PyProof.Rows L2
variable {P : Program} {w : World} {K : PySem.W.Frag} {mg : Str → Option Value} {base : Heap} {k : Nat}
theorem outN_none : ∀ {fs ns : List Str}, goodTo ns → ns.length + fs.length ≤ 24 → outN ns fs = none → goodTo (ns ++ fs)
  | [], ns, g, _, _ => by rw [List.append_nil]; exact g
  | n :: r, ns, g, l, h => by
    have h' : (if isName n = false then some (pr ("name", n)) else if n ∈ ns then some (pr ("there", n)) else outN (ns ++ [n]) r) = none := h
    by_cases h1 : isName n = false
    · rw [if_pos h1] at h'; cases h'
    · rw [if_neg h1] at h'
      by_cases h2 : n ∈ ns
      · rw [if_pos h2] at h'; cases h'
      · rw [if_neg h2] at h'
        simp only [List.length_cons] at l
        have := outN_none (g.snoc (by simpa using h1) h2 (by omega)) (by rw [List.length_append]; show ns.length + 1 + r.length ≤ 24; omega) h'
        rw [List.append_assoc] at this
        exact this
section
variable {X : Cx} {N : List Str} {sc : Scope} {δ : Ds} {A : AH} {e e1 e2 e3 : Expr} {p1 pos : Pos} {w wl : Addr} {W : WebD} {ns fs : List Str} {ts : List (Str × Str)} {t : Str × Str}
/-- _law_refused(web, tie, people) -/
theorem ref3_ev (B : BC X N sc) (F : FnT X.prog X.w X.K X.mg X.base 8 (He.ga X.K "_law_refused") (tpRef3 X.K)) (g : GF X.K X.mg "_law_refused") (room : Room 8 X.A) (hg : sc.names.lookup ("_law_refused" : Str) = some .globalImplicit)
    (h1 : Ev X e1 δ A (.ref w)) (hw : A w = some (.abs (isWeb (cW X.K) wl w W))) (gW : GW W ns ts) (h2 : Ev X e2 δ A (pr t)) (h3 : Ev X e3 δ A (.tup (fs.map .str))) (hz : ∀ n ∈ fs, n.length ≤ sizeLine) (hl : ns.length + fs.length ≤ 24) {z : TL.D} (hR : outR ns fs t = z)
    (s1 : starEach [e1, e2, e3] X.env = (false, eval e1 X.env) :: starEach [e2, e3] X.env := by rfl) (hpl : (backTo pos (starEach [e2, e3] X.env)).any (·.1) = false := by rfl) (s2 : starEach [e2, e3] X.env = (false, eval e2 X.env) :: starEach [e3] X.env := by rfl) (s3 : starEach [e3] X.env = (false, eval e3 X.env) :: starEach [] X.env := by rfl) :
    Ev X (.Call (.Name "_law_refused" p1) [e1, e2, e3] [] pos) δ A z := ev_drop fun A1 k =>
  B.call (ET := NoX) F room hg g.g g.k pass0 (EvA.wp (EvA.sub (eva_cons h1 (eva_cons h2 (eva_cons h3 eva_nil s3) s2) s1) k) ⟨w, wl, W, ns, ts, fs, t, rfl, k _ _ hw, gW, hz, hl, outN_none gW.to hl, fun A' s => ⟨hR, s⟩⟩) (he := s1) (hpl := hpl)
end
theorem outR_name {ns pre post : List Str} {n : Str} {t : Str × Str} (g : goodTo (ns ++ pre)) (h : isName n = false) : outR ns (pre ++ n :: post) t = pr ("name", n) := by
  unfold outR
  rw [outN_bad g]
  show (match (if isName n = false then some (pr ("name", n)) else _) with | some z => z | none => _) = _
  rw [if_pos h]
theorem outR_there {ns pre post : List Str} {n : Str} {t : Str × Str} (g : goodTo (ns ++ pre)) (h : isName n = true) (hi : n ∈ ns ++ pre) : outR ns (pre ++ n :: post) t = pr ("there", n) := by
  unfold outR
  rw [outN_bad g]
  show (match (if isName n = false then some (pr ("name", n)) else if n ∈ ns ++ pre then some (pr ("there", n)) else _) with | some z => z | none => _) = _
  rw [if_neg (by rw [h]; exact fun z => Bool.noConfusion z), if_pos hi]
theorem outR_p1 {ns fs : List Str} {t : Str × Str} (g : goodTo (ns ++ fs)) (h : t.1 ∉ ns ++ fs) : outR ns fs t = pr ("person", t.1) := by
  unfold outR
  rw [outN_good g]
  show (if t.1 ∉ ns ++ fs then _ else _) = _
  rw [if_pos h]
theorem outR_p2 {ns fs : List Str} {t : Str × Str} (g : goodTo (ns ++ fs)) (h : t.1 ∈ ns ++ fs) (k : t.2 ∉ ns ++ fs) : outR ns fs t = pr ("person", t.2) := by
  unfold outR
  rw [outN_good g]
  show (if t.1 ∉ ns ++ fs then _ else _) = _
  rw [if_neg (fun z => z h), if_pos k]
theorem outR_fine {ns fs : List Str} {t : Str × Str} (g : goodTo (ns ++ fs)) (h : t.1 ∈ ns ++ fs) (k : t.2 ∈ ns ++ fs) : outR ns fs t = pr ("fine", "") := by
  unfold outR
  rw [outN_good g]
  show (if t.1 ∉ ns ++ fs then _ else _) = _
  rw [if_neg (fun z => z h), if_neg (fun z => z k)]
theorem odd_bad (z : Str) : isName (z ++ "A") = false := isName_bad (c := 65) (by
  show 65 ∈ (z.cps ++ #[65]).toList
  simp) (by decide +kernel)
theorem et_neS {α : Type} [DecidableEq α] [PySem.W.Datum α] [Tree α] {X : Cx} {δ : Ds} {A : AH} {e e2 : Expr} {pos : Pos} {x : α} (hu : X.A.units + PySem.W.Datum.depth α < cLine) (h : Ev X e δ A (Tree.enc x)) (h2 : Ev X e2 δ A (Tree.enc x)) (hm : behindInMarks .NotEq e2 = false := by rfl) : EvT X (.Compare e [.NotEq] [e2] pos) δ A false := EvT.to (et_cmp h h2 (opv_ne hu) hm) (by simp)
def tpNRef (K : PySem.W.Frag) : TSp := fun ds A Q E => ∃ w wl W n f, ∃ (ns : List Str) (ts : List (Str × Str)) (x0 x1 : Str) (xr : List Str), ds = [.ref w, .ref n, .ref f] ∧ A w = some (.abs (isWeb (cW K) wl w W)) ∧ GW W ns ts ∧ NamesOk ns ∧ A n = some (.prim (.lst (ns.map .str))) ∧ A f = some (.prim (.lst ((x0 :: x1 :: xr).map .str))) ∧ (isName x0 = true ∧ x0 ∉ ns) ∧ (isName x1 = true ∧ x1 ∉ ns) ∧ x0 ≠ x1 ∧ ∀ A', TL.Sub A A' → Q (.bl true) A'
theorem sc_nref : FnScope N_law_names_refused ["_law_web_here", "_law_names_here", "_law_free"] (defScope s_law_names_refused) := ⟨rfl, rfl, rfl, by decide +kernel, rfl, by decide +kernel, by decide +kernel⟩
theorem body_nref (gr : GF K mg "_law_refused") (Fr : FnT P w K mg base 8 (He.ga K "_law_refused") (tpRef3 K)) : BodyT P w K mg base N_law_names_refused (defScope s_law_names_refused) 8 (defBody s_law_names_refused) (tpNRef K) := by
  intro X bd ds A Q ET hx ⟨w, wl, W, n, f, ns, ts, x0, x1, xr, e, hw, gW, hns, hn, hf, hx0, hx1, hne, qq⟩
  obtain ⟨rfl, rfl, rfl, rfl, rfl, B, room, _, _⟩ := bd
  subst e
  have hu := room.units
  have uP : X.A.units + PySem.W.Datum.depth (Str × Str) < cLine := Nat.lt_of_le_of_lt (Nat.add_le_add_left (show PySem.W.Datum.depth (Str × Str) ≤ 64 by decide) _) hu
  have n6 := hns.le
  have n1 := hns.pos
  obtain ⟨n0, nr, en⟩ : ∃ n0 nr, ns = n0 :: nr := by
    cases h : ns with
    | nil => rw [h] at n1; cases n1
    | cons a b => exact ⟨a, b, rfl⟩
  have ix0 : atI (ns.map TL.D.str) 0 = some (.str n0) := by rw [en]; exact atI_pos (xs := (n0 :: nr).map TL.D.str) (i := 0) (by decide) (by simp)
  have hn0 : n0 ∈ ns := by rw [en]; simp
  have gn0 := (hns.good n0 hn0)
  have hod := odd_bad n0
  have zod : (n0 ++ "A").length ≤ sizeLine := by
    rw [str_len_app]
    have := gn0.2
    exact Nat.le_trans (show n0.length + 1 ≤ 9 by omega) (by decide)
  have hno : ∀ {l : List Str}, (∀ x ∈ l, isName x = true) → n0 ++ "A" ∉ l := fun h z => by
    have := h _ z
    rw [hod] at this; cases this
  have zn : ∀ {x : Str}, isName x = true → x.length ≤ sizeLine := fun h => Nat.le_trans (isName_len h).2 (by decide)
  have z3 : ∀ x ∈ [x0, n0 ++ "A", n0], x.length ≤ sizeLine := fun x hx => by
    simp only [List.mem_cons, List.not_mem_nil, or_false] at hx
    rcases hx with rfl | rfl | rfl
    · exact zn hx0.1
    · exact zod
    · exact zn gn0.1
  have z2 : ∀ x ∈ [x0, x0], x.length ≤ sizeLine := fun x hx => by
    simp only [List.mem_cons, List.not_mem_nil, or_false, or_self] at hx
    rw [hx]; exact zn hx0.1
  have gN : goodTo ns := gW.to
  have gN0 : goodTo (ns ++ []) := by rw [List.append_nil]; exact gN
  have gN1 : ∀ {x : Str}, isName x = true → x ∉ ns → goodTo (ns ++ [x]) := fun h1 h2 => gN.snoc h1 h2 (by omega)
  have fr0 : ∀ {δ : Ds} {j : Nat} {q1 q2 q3 : Pos}, δ[2]? = some (some (.ref f)) → Ev X (.Subscript (.Name "_law_free" q1) (.Constant (.int 0) j q2) q3) δ A (.str x0) := fun h => ev_ix (B.nm (i := 2) rfl h (.inl rfl)) ev_int (ixv_list (.inl hf) (z := .str x0) (atI_pos (xs := (x0 :: x1 :: xr).map TL.D.str) (i := 0) (by decide) (by simp)))
  have fr1 : ∀ {δ : Ds} {j : Nat} {q1 q2 q3 : Pos}, δ[2]? = some (some (.ref f)) → Ev X (.Subscript (.Name "_law_free" q1) (.Constant (.int 1) j q2) q3) δ A (.str x1) := fun h => ev_ix (B.nm (i := 2) rfl h (.inl rfl)) ev_int (ixv_list (.inl hf) (z := .str x1) (atI_pos (xs := (x0 :: x1 :: xr).map TL.D.str) (i := 1) (by decide) (by simp)))
  have nm0 : ∀ {δ : Ds} {A : AH} {j : Nat} {q1 q2 q3 : Pos}, δ[1]? = some (some (.ref n)) → A n = some (.prim (.lst (ns.map .str))) → Ev X (.Subscript (.Name "_law_names_here" q1) (.Constant (.int 0) j q2) q3) δ A (.str n0) := fun h k => ev_ix (B.nm (i := 1) rfl h (.inl rfl)) ev_int (ixv_list (.inl k) (z := .str n0) ix0)
  refine wpb_cons (B.set (i := 3) rfl (.inl rfl) (Ev.wp (ev_bin (nm0 rfl hn) ev_str (opv_adds (by rw [← str_len_app]; exact zod))) ?_))
  refine wpb_cons (B.set (i := 4) rfl (.inl rfl) (Ev.wp (d := pr (x0, n0)) (ev_tup (eva_cons (fr0 rfl) (eva_cons (nm0 rfl hn) eva_nil)) (show 2 ≤ sizeLine by decide)) ?_))
  show WPB X _ [some (.ref w), some (.ref n), some (.ref f), some (.str (n0 ++ "A")), some (pr (x0, n0)), none] A _
  refine wpb_cons (wps_ifE (k := false) (et_w (ew_or (k := false) (l := false) (et_neS (x := (("name", n0 ++ "A") : Str × Str)) uP (ref3_ev (fs := [n0 ++ "A"]) B.toBC Fr gr (room.mono (by decide)) rfl (B.nm (i := 0) rfl rfl (.inl rfl)) hw gW (B.nm (i := 4) rfl rfl (.inl rfl)) (ev_tup (eva_cons ((B.nm (i := 3) rfl rfl (.inl rfl))) eva_nil) (show 1 ≤ sizeLine by decide)) (fun x hx => by rw [List.mem_singleton] at hx; rw [hx]; exact zod) (by show ns.length + 1 ≤ 24; omega) (outR_name (pre := []) (post := []) gN0 hod)) (ev_tup (eva_cons ev_str (eva_cons ((B.nm (i := 3) rfl rfl (.inl rfl))) eva_nil)) (show 2 ≤ sizeLine by decide))) fun _ => ew_or1 (et_neS (x := (("name", n0 ++ "A") : Str × Str)) uP (ref3_ev (fs := [x0, n0 ++ "A", n0]) B.toBC Fr gr (room.mono (by decide)) rfl (B.nm (i := 0) rfl rfl (.inl rfl)) hw gW (B.nm (i := 4) rfl rfl (.inl rfl)) (ev_tup (eva_cons (fr0 rfl) (eva_cons ((B.nm (i := 3) rfl rfl (.inl rfl))) (eva_cons (nm0 rfl hn) eva_nil))) (show 3 ≤ sizeLine by decide)) z3 (by show ns.length + 3 ≤ 24; omega) (outR_name (pre := [x0]) (post := [n0]) (gN1 hx0.1 hx0.2) hod)) (ev_tup (eva_cons ev_str (eva_cons ((B.nm (i := 3) rfl rfl (.inl rfl))) eva_nil)) (show 2 ≤ sizeLine by decide))))) (fun z => Bool.noConfusion z) fun _ => wpb_nil ?_)
  refine wpb_cons (B.for_ (wpi_list (EvN.wp (evn_lst (ds := [.tup [.str n0], .tup [.str n0, .str (n0 ++ "A")]]) (eva_cons (ev_tup (eva_cons (nm0 rfl hn) eva_nil) (show 1 ≤ sizeLine by decide)) (eva_cons (ev_tup (eva_cons (nm0 rfl hn) (eva_cons ((B.nm (i := 3) rfl rfl (.inl rfl))) eva_nil)) (show 2 ≤ sizeLine by decide)) eva_nil)) (show 2 ≤ sizeLine by decide)) fun u hu2 => ?_)))
  have sN := Sub.upd (o := .prim (.lst [.tup [.str n0], .tup [.str n0, .str (n0 ++ "A")]])) (Sub.refl A) hu2
  have hn2 := sN _ _ hn
  have hw2 := sN _ _ hw
  have hf2 := sN _ _ hf
  have qq : ∀ A', TL.Sub (updA A u (.prim (.lst [.tup [.str n0], .tup [.str n0, .str (n0 ++ "A")]]))) A' → Q (.bl true) A' := fun A' s => qq A' (sN.trans s)
  have hu2 : updA A u (.prim (.lst [.tup [.str n0], .tup [.str n0, .str (n0 ++ "A")]])) u = some (.prim (.lst [.tup [.str n0], .tup [.str n0, .str (n0 ++ "A")]])) := updA_same
  clear sN
  generalize updA A u (.prim (.lst [.tup [.str n0], .tup [.str n0, .str (n0 ++ "A")]])) = A3 at hn2 hw2 hf2 hu2 qq ⊢
  refine ⟨u, [.tup [.str n0], .tup [.str n0, .str (n0 ++ "A")]], rfl, hu2, fun i δ' E1 => E1 = A3 ∧ ∃ v5 : Option TL.D, δ' = [some (.ref w), some (.ref n), some (.ref f), some (.str (n0 ++ "A")), some (pr (x0, n0)), v5], ⟨rfl, none, rfl⟩, fun _ _ _ _ ⟨eA, _⟩ => by rw [eA]; exact hu2, fun i δ' E1 hi ⟨eA, v5, eδ⟩ => ?_, fun δ' E1 ⟨eA, v5, eδ⟩ => ?_⟩
  · have eA := eA.symm
    subst eA eδ
    obtain ⟨post, e0, hp, hpl⟩ : ∃ post : List Str, ([.tup [.str n0], .tup [.str n0, .str (n0 ++ "A")]] : List TL.D)[i]? = some (.tup ((n0 :: post).map .str)) ∧ (∀ y ∈ post, y.length ≤ sizeLine) ∧ post.length ≤ 1 := by
      match i, hi with
      | 0, _ => exact ⟨[], rfl, (fun _ h => nomatch h), Nat.zero_le _⟩
      | 1, _ => exact ⟨[n0 ++ "A"], rfl, (fun y h => by rw [List.mem_singleton] at h; subst h; exact zod), Nat.le_refl _⟩
      | i + 2, h => exact absurd h (by simp)
    refine WPG.to (d' := .tup ((n0 :: post).map .str)) (B.tn (i := 5) rfl (.inl rfl) ?_) (getD_of e0)
    refine wpb_cons (wps_ifE (k := false) (et_neS (x := (("there", n0) : Str × Str)) uP (ref3_ev (fs := n0 :: post) B.toBC Fr gr (room.mono (by decide)) rfl (B.nm (i := 0) rfl rfl (.inl rfl)) hw2 gW (B.nm (i := 4) rfl rfl (.inl rfl)) (B.nm (i := 5) rfl rfl (.inl rfl)) (fun x hx => (List.mem_cons.mp hx).elim (fun z => by rw [z]; exact zn gn0.1) (hp x)) (by simp only [List.length_cons]; omega) (outR_there (pre := []) (post := post) gN0 gn0.1 (by rw [List.append_nil]; exact hn0))) (ev_tup (eva_cons ev_str (eva_cons (nm0 rfl hn2) eva_nil)) (show 2 ≤ sizeLine by decide))) (fun z => Bool.noConfusion z) fun _ => wpb_nil ?_)
    exact wpb_nil ⟨_, Vw.refl _, rfl, _, rfl⟩
  have eA := eA.symm
  subst eA eδ
  have hf := hf2
  have fr0 : ∀ {δ : Ds} {j : Nat} {q1 q2 q3 : Pos}, δ[2]? = some (some (.ref f)) → Ev X (.Subscript (.Name "_law_free" q1) (.Constant (.int 0) j q2) q3) δ A3 (.str x0) := fun h => ev_ix (B.nm (i := 2) rfl h (.inl rfl)) ev_int (ixv_list (.inl hf) (z := .str x0) (atI_pos (xs := (x0 :: x1 :: xr).map TL.D.str) (i := 0) (by decide) (by simp)))
  have fr1 : ∀ {δ : Ds} {j : Nat} {q1 q2 q3 : Pos}, δ[2]? = some (some (.ref f)) → Ev X (.Subscript (.Name "_law_free" q1) (.Constant (.int 1) j q2) q3) δ A3 (.str x1) := fun h => ev_ix (B.nm (i := 2) rfl h (.inl rfl)) ev_int (ixv_list (.inl hf) (z := .str x1) (atI_pos (xs := (x0 :: x1 :: xr).map TL.D.str) (i := 1) (by decide) (by simp)))
  have z1 : ∀ {x : Str}, isName x = true → ∀ y ∈ [x], y.length ≤ sizeLine := fun h y hy => by rw [List.mem_singleton] at hy; rw [hy]; exact zn h
  have g1 := gN1 hx1.1 hx1.2
  have in1 : ∀ {x : Str}, x ∈ ns → x ∈ ns ++ [x1] := fun h => List.mem_append_left _ h
  have nx0 : x0 ∉ ns ++ [x1] := fun z => (List.mem_append.mp z).elim hx0.2 fun z => hne (List.mem_singleton.mp z)
  refine wpb_cons (wps_ifE (k := false) (et_w (ew_or (k := false) (l := false) (et_neS (x := (("there", x0) : Str × Str)) uP (ref3_ev (fs := [x0, x0]) B.toBC Fr gr (room.mono (by decide)) rfl (B.nm (i := 0) rfl rfl (.inl rfl)) hw2 gW (B.nm (i := 4) rfl rfl (.inl rfl)) (ev_tup (eva_cons (fr0 rfl) (eva_cons (fr0 rfl) eva_nil)) (show 2 ≤ sizeLine by decide)) z2 (by show ns.length + 2 ≤ 24; omega) (outR_there (pre := [x0]) (post := []) (gN1 hx0.1 hx0.2) hx0.1 (by simp))) (ev_tup (eva_cons ev_str (eva_cons (fr0 rfl) eva_nil)) (show 2 ≤ sizeLine by decide))) fun _ => ew_or1 (et_neS (x := (("fine", "") : Str × Str)) uP (ref3_ev (fs := [x0]) B.toBC Fr gr (room.mono (by decide)) rfl (B.nm (i := 0) rfl rfl (.inl rfl)) hw2 gW (B.nm (i := 4) rfl rfl (.inl rfl)) (ev_tup (eva_cons (fr0 rfl) eva_nil) (show 1 ≤ sizeLine by decide)) (z1 hx0.1) (by show ns.length + 1 ≤ 24; omega) (outR_fine (gN1 hx0.1 hx0.2) (by show x0 ∈ _; simp) (List.mem_append_left _ hn0))) (ev_tup (eva_cons ev_str (eva_cons ev_str eva_nil)) (show 2 ≤ sizeLine by decide))))) (fun z => Bool.noConfusion z) fun _ => wpb_nil ?_)
  refine wpb_cons (wps_ifE (k := false) (et_neS (x := (("person", x0) : Str × Str)) uP (ref3_ev (fs := [x1]) (t := (n0, x0)) B.toBC Fr gr (room.mono (by decide)) rfl (B.nm (i := 0) rfl rfl (.inl rfl)) hw2 gW (ev_tup (eva_cons (nm0 rfl hn2) (eva_cons (fr0 rfl) eva_nil)) (show 2 ≤ sizeLine by decide)) (ev_tup (eva_cons (fr1 rfl) eva_nil) (show 1 ≤ sizeLine by decide)) (z1 hx1.1) (by show ns.length + 1 ≤ 24; omega) (outR_p2 g1 (in1 hn0) nx0)) (ev_tup (eva_cons ev_str (eva_cons (fr0 rfl) eva_nil)) (show 2 ≤ sizeLine by decide))) (fun z => Bool.noConfusion z) fun _ => wpb_nil ?_)
  refine wpb_cons (wps_ret (Ev.wp (d := .bl true) (Ev.to (ev_cmp (ref3_ev (fs := [x1]) (t := (n0 ++ "A", x0)) B.toBC Fr gr (room.mono (by decide)) rfl (B.nm (i := 0) rfl rfl (.inl rfl)) hw2 gW (ev_tup (eva_cons ((B.nm (i := 3) rfl rfl (.inl rfl))) (eva_cons (fr0 rfl) eva_nil)) (show 2 ≤ sizeLine by decide)) (ev_tup (eva_cons (fr1 rfl) eva_nil) (show 1 ≤ sizeLine by decide)) (z1 hx1.1) (by show ns.length + 1 ≤ 24; omega) (outR_p1 g1 (hno g1.2.2))) (ev_tup (eva_cons ev_str (eva_cons ((B.nm (i := 3) rfl rfl (.inl rfl))) eva_nil)) (show 2 ≤ sizeLine by decide)) (opv_eq (α := Str × Str) (x := ("person", n0 ++ "A")) (y := ("person", n0 ++ "A")) uP) rfl) (by simp)) (RV.mk (qq _ (Sub.refl _)))))
end TL
/-! law k03: _law_apart -/
namespace TL
open PySem PySem.Spec PyProof.Rows L2
variable {P : Program} {w : World} {K : PySem.W.Frag} {mg : Str → Option Value} {base : Heap} {k : Nat}
theorem prim_over {A : AH} {a p : Addr} {o : MO} {R0 : MH → Prop} {u : AO} (h : A a = some (.prim o)) (hp : A p = some (.abs R0)) : updA A p u a = some (.prim o) := by
  rw [updA_ne (fun z => by rw [z, hp] at h; cases h)]; exact h
structure ApF (P : Program) (w : World) (K : PySem.W.Frag) (mg : Str → Option Value) (base : Heap) : Prop where
  M : M3F P w K mg base
  nref : FnT P w K mg base 9 (He.ga K "_law_names_refused") (tpNRef K)
  many : FnT P w K mg base 9 (He.ga K "_law_many") (tpMany3 K)
  lstr : FnT P w K mg base 2 (He.ga K "_law_strangers") (tpLStr K)
  gnref : GF K mg "_law_names_refused"
  gmany : GF K mg "_law_many"
  glstr : GF K mg "_law_strangers"
def tpApart (K : PySem.W.Frag) : TSp := fun ds A Q E => ∃ w wl W v vl V n q g1 g2, ∃ (ns fs : List Str) (ts tl : List (Str × Str)), ds = [.ref w, .ref v, .ref n, .ref q, .tup [.ref g1, .ref g2]] ∧ A w = some (.abs (isWeb (cW K) wl w W)) ∧ GW W ns ts ∧ A v = some (.abs (isWeb (cW K) vl v V)) ∧ GW V (ns ++ fs) (ts ++ tl) ∧ w ≠ v ∧ NamesOk ns ∧ (∀ t ∈ ts, t.1 ∈ ns ∧ t.2 ∈ ns) ∧ ts.length ≤ 20 ∧ A n = some (.prim (.lst (ns.map .str))) ∧ A q = some (.prim (.lst (ts.map pr))) ∧ A g1 = some (.prim (.lst ((ns ++ fs).map .str))) ∧ A g2 = some (.prim (.lst (tl.map pr))) ∧ GrowthOk ns fs tl ∧ ∀ A', Q (.bl true) A'
theorem sc_apart : FnScope N_law_apart ["_law_web_here", "_law_later", "_law_names_here", "_law_ties_here", "_law_grown_here"] (defScope s_law_apart) := ⟨rfl, rfl, rfl, by decide +kernel, rfl, by decide +kernel, by decide +kernel⟩
theorem body_apart (LF : ApF P w K mg base) : BodyT P w K mg base N_law_apart (defScope s_law_apart) 9 (defBody s_law_apart) (tpApart K) := by
  intro X bd ds A Q ET hx ⟨w, wl, W, v, vl, V, n, q, g1, g2, ns, fs, ts, tl, e, hW, gW, hV, gV, wv, hns, tin, t20, hn, hq, h1, h2, hg, qq⟩
  obtain ⟨rfl, rfl, rfl, rfl, rfl, B, room, _, _⟩ := bd
  subst e
  have MF := LF.M
  have WF := MF.web X rfl rfl rfl rfl rfl (room.mono (by decide))
  have n6 := hns.le
  have n1 := hns.pos
  have f3 := hg.le
  have t5 := hg.tle
  have z1000 : (1000 : Nat) ≤ sizeLine := by decide
  have g2' : ∀ {A : AH} {a b : Addr} {o u : AO}, A a = some u → A b = none → updA A b o a = some u := fun h h2 => Sub.upd (Sub.refl _) h2 _ _ h
  have gr0 : ∀ {δ : Ds} {A : AH} {j : Nat} {q1 q2 q3 : Pos}, δ[4]? = some (some (.tup [.ref g1, .ref g2])) → Ev X (.Subscript (.Name "_law_grown_here" q1) (.Constant (.int 0) j q2) q3) δ A (.ref g1) := fun h => ev_ix (B.nm (i := 4) rfl h (.inl rfl)) ev_int (ixv_tup (z := .ref g1) rfl)
  have gr1 : ∀ {δ : Ds} {A : AH} {j : Nat} {q1 q2 q3 : Pos}, δ[4]? = some (some (.tup [.ref g1, .ref g2])) → Ev X (.Subscript (.Name "_law_grown_here" q1) (.Constant (.int 1) j q2) q3) δ A (.ref g2) := fun h => ev_ix (B.nm (i := 4) rfl h (.inl rfl)) ev_int (ixv_tup (z := .ref g2) rfl)
  refine wpb_cons (B.set (i := 5) rfl (.inl rfl) ((B.call (ET := NoX) LF.lstr (room.mono (by decide)) rfl LF.glstr.g LF.glstr.k pass0 (EvA.wp (eva_cons (gr0 rfl) eva_nil) ⟨g1, ns ++ fs, rfl, h1, fun f hf => ?_⟩))))
  have fl1 := freeOf_len (ns ++ fs)
  have fnd := freeOf_nd (ns ++ fs)
  have fin : ∀ x ∈ freeOf (ns ++ fs), isName x = true ∧ x ∉ ns ++ fs := fun x hx => freeOf_in hx
  have sN := Sub.upd (o := (.prim (.lst ((freeOf (ns ++ fs)).map .str)))) (Sub.refl A) hf
  have hW := sN _ _ hW
  have hV := sN _ _ hV
  have hn := sN _ _ hn
  have hq := sN _ _ hq
  have h1 := sN _ _ h1
  have h2 := sN _ _ h2
  have hf : updA A f (.prim (.lst ((freeOf (ns ++ fs)).map .str))) f = some (.prim (.lst ((freeOf (ns ++ fs)).map .str))) := updA_same
  generalize updA A f (.prim (.lst ((freeOf (ns ++ fs)).map .str))) = A1 at hW hV hn hq h1 h2 hf ⊢
  clear sN
  obtain ⟨x0, x1, xr, ex⟩ : ∃ x0 x1 xr, freeOf (ns ++ fs) = x0 :: x1 :: xr := by
    rw [List.length_append] at fl1
    match h : freeOf (ns ++ fs) with
    | [] => rw [h] at fl1; simp at fl1; omega
    | [_] => rw [h] at fl1; simp at fl1; omega
    | x0 :: x1 :: xr => exact ⟨x0, x1, xr, rfl⟩
  rw [ex] at hf fin fnd
  have hx0 := fin x0 (by simp)
  have hx1 := fin x1 (by simp)
  have hne : x0 ≠ x1 := fun z => by rw [z] at fnd; simp at fnd
  clear fin fnd fl1 ex
  obtain ⟨n0, nr, en⟩ : ∃ n0 nr, ns = n0 :: nr := by
    cases h : ns with
    | nil => rw [h] at n1; cases n1
    | cons a b => exact ⟨a, b, rfl⟩
  obtain ⟨pl, nl, el⟩ : ∃ pl nl, ns = pl ++ [nl] := ⟨ns.dropLast, ns.getLast (by rw [en]; simp), (List.dropLast_concat_getLast _).symm⟩
  have ix0 : atI (ns.map TL.D.str) 0 = some (.str n0) := by rw [en]; exact atI_pos (xs := (n0 :: nr).map TL.D.str) (i := 0) (by decide) (by simp)
  have ixl : atI (ns.map TL.D.str) (-1) = some (.str nl) := by rw [el, List.map_append]; exact atI_last
  have hn0 : n0 ∈ ns := by rw [en]; simp
  have hnl : nl ∈ ns := by rw [el]; simp
  clear en el
  have fr0 : ∀ {δ : Ds} {A : AH} {j : Nat} {q1 q2 q3 : Pos}, δ[5]? = some (some (.ref f)) → A f = some (.prim (.lst ((x0 :: x1 :: xr).map .str))) → Ev X (.Subscript (.Name "_law_free" q1) (.Constant (.int 0) j q2) q3) δ A (.str x0) := fun h k => ev_ix (B.nm (i := 5) rfl h (.inl rfl)) ev_int (ixv_list (.inl k) (z := .str x0) (atI_pos (xs := (x0 :: x1 :: xr).map TL.D.str) (i := 0) (by decide) (by simp)))
  have fr1 : ∀ {δ : Ds} {A : AH} {j : Nat} {q1 q2 q3 : Pos}, δ[5]? = some (some (.ref f)) → A f = some (.prim (.lst ((x0 :: x1 :: xr).map .str))) → Ev X (.Subscript (.Name "_law_free" q1) (.Constant (.int 1) j q2) q3) δ A (.str x1) := fun h k => ev_ix (B.nm (i := 5) rfl h (.inl rfl)) ev_int (ixv_list (.inl k) (z := .str x1) (atI_pos (xs := (x0 :: x1 :: xr).map TL.D.str) (i := 1) (by decide) (by simp)))
  have nm0 : ∀ {δ : Ds} {A : AH} {j : Nat} {q1 q2 q3 : Pos}, δ[2]? = some (some (.ref n)) → A n = some (.prim (.lst (ns.map .str))) → Ev X (.Subscript (.Name "_law_names_here" q1) (.Constant (.int 0) j q2) q3) δ A (.str n0) := fun h k => ev_ix (B.nm (i := 2) rfl h (.inl rfl)) ev_int (ixv_list (.inl k) (z := .str n0) ix0)
  have nml : ∀ {δ : Ds} {A : AH} {j : Nat} {q1 q2 q3 q4 : Pos}, δ[2]? = some (some (.ref n)) → A n = some (.prim (.lst (ns.map .str))) → Ev X (.Subscript (.Name "_law_names_here" q1) (.UnaryOp .USub (.Constant (.int 1) j q2) q3) q4) δ A (.str nl) := fun h k => ev_ix (B.nm (i := 2) rfl h (.inl rfl)) ev_neg (ixv_list (.inl k) (z := .str nl) ixl)
  have hx0n : x0 ∉ ns := fun z => hx0.2 (List.mem_append_left _ z)
  have hx1n : x1 ∉ ns := fun z => hx1.2 (List.mem_append_left _ z)
  show WPB X _ [some (.ref w), some (.ref v), some (.ref n), some (.ref q), some (.tup [.ref g1, .ref g2]), some (.ref f), none] A1 _
  refine wpb_cons (wps_ifE (k := false) (et_w (ew_or (k := false) (l := false) (et_not (k := true) (et_val (ev_drop fun B1 k1 => (B.call (ET := NoX) LF.nref (room.mono (by decide)) rfl LF.gnref.g LF.gnref.k pass0 (EvA.wp (eva_cons ((B.nm (i := 0) rfl rfl (.inl rfl))) (eva_cons ((B.nm (i := 2) rfl rfl (.inl rfl))) (eva_cons ((B.nm (i := 5) rfl rfl (.inl rfl))) eva_nil))) ⟨w, wl, W, n, f, ns, ts, x0, x1, xr, rfl, k1 _ _ hW, gW, hns, k1 _ _ hn, k1 _ _ hf, ⟨hx0.1, hx0n⟩, ⟨hx1.1, hx1n⟩, hne, fun A' s => ⟨rfl, s⟩⟩))))) fun _ => ew_or1 (et_not (k := true) (et_val (ev_drop fun B1 k1 => B.call (ET := NoX) LF.many (room.mono (by decide)) rfl LF.gmany.g LF.gmany.k pass0 (wpa_cons (Ev.wp (B.nm (i := 2) rfl rfl (.inl rfl)) (wpa_cons (B.call (ET := NoX) LF.lstr (room.mono (by decide)) rfl LF.glstr.g LF.glstr.k pass0 (EvA.wp (eva_cons ((B.nm (i := 2) rfl rfl (.inl rfl))) eva_nil) ⟨n, ns, rfl, k1 _ _ hn, fun q hq => wpa_nil ⟨n, q, ns, freeOf ns, rfl, g2' (k1 _ _ hn) hq, updA_same, hns, fun x hx => (freeOf_in hx).1, List.nodup_append.mpr ⟨hns.nd, freeOf_nd ns, fun a ha b hb e => (freeOf_in hb).2 (e ▸ ha)⟩, by have := freeOf_len ns; omega, fun A' s => ⟨rfl, (Sub.upd (Sub.refl _) hq).trans s⟩⟩⟩)))))))))) (fun z => Bool.noConfusion z) fun _ => wpb_nil ?_)
  refine wpb_cons (wps_ifE (k := false) (et_not (k := true) (et_val (same_ev B.toBC MF.same MF.gsame (room.mono (by decide)) rfl (Ev.toWb (B.nm (i := 0) rfl rfl (.inl rfl)) hW gW) (Ev.toW (B.nm (i := 2) rfl rfl (.inl rfl)) hn) (Ev.toW (B.nm (i := 3) rfl rfl (.inl rfl)) hq) tin (by omega)))) (fun z => Bool.noConfusion z) fun _ => wpb_nil ?_)
  -- later
  have ml : (ns ++ fs).length ≤ 9 := by rw [List.length_append]; omega
  have gV1 := gV.add hx0.1 hx0.2 (by omega)
  refine wpb_cons (wps_expr (wpe_meth (ET := NoX) WF.G.cls WF.G.mwel WF.wel (room.mono (by decide)) pass0 (Ev.wp (B.nm (i := 1) rfl rfl (.inl rfl)) ⟨v, rfl, web_insT hV fun _ _ _ => rfl, EvA.wp (eva_cons (fr0 rfl hf) eva_nil) ⟨v, vl, V, x0, rfl, hV, Nat.le_trans (isName_len hx0.1).2 (by decide), gV.good.len, fun _ _ _ => ?_, fun h => (by rw [hx0.1] at h; cases h), fun _ h => (hx0.2 (by rw [gV.pp] at h; exact h)).elim, fun _ _ h => (by rw [gV.pp] at h; omega)⟩⟩)))
  have hn := prim_over (u := .abs (isWeb (cW X.K) vl v (V.add x0))) hn hV
  have hq := prim_over (u := .abs (isWeb (cW X.K) vl v (V.add x0))) hq hV
  have h1 := prim_over (u := .abs (isWeb (cW X.K) vl v (V.add x0))) h1 hV
  have h2 := prim_over (u := .abs (isWeb (cW X.K) vl v (V.add x0))) h2 hV
  have hf := prim_over (u := .abs (isWeb (cW X.K) vl v (V.add x0))) hf hV
  have hW : updA A1 v (.abs (isWeb (cW X.K) vl v (V.add x0))) w = some (.abs (isWeb (cW X.K) wl w W)) := by rw [updA_ne wv]; exact hW
  have hV : updA A1 v (.abs (isWeb (cW X.K) vl v (V.add x0))) v = some (.abs (isWeb (cW X.K) vl v (V.add x0))) := updA_same
  generalize updA A1 v (.abs (isWeb (cW X.K) vl v (V.add x0))) = A2 at hn hq h1 h2 hf hW hV ⊢
  generalize V.add x0 = V1 at gV1 hV
  have n0V : n0 ∈ (ns ++ fs) ++ [x0] := List.mem_append_left _ (List.mem_append_left _ hn0)
  have nlV : nl ∈ (ns ++ fs) ++ [x0] := List.mem_append_left _ (List.mem_append_left _ hnl)
  have x0V : x0 ∈ (ns ++ fs) ++ [x0] := by simp
  have ga := gV1.good
  refine wpb_cons (wps_putO (ET := NoX) WF.M.set WF.G.seq WF.set (room.mono (by decide)) pass0 (Ev.wp ev_bl (Ev.wp (B.nm (i := 1) rfl rfl (.inl rfl)) (Ev.wp (ev_tup (eva_cons (fr0 rfl hf) (eva_cons (nm0 rfl hn) eva_nil)) (show 2 ≤ sizeLine by decide)) ⟨v, rfl, web_insC hV, v, vl, V1, x0, n0, true, rfl, hV, ⟨ga.nd, ga.len, ga.rnd, ga.tnd, ga.tin⟩, fun _ _ _ => ?_, fun h => (h (by rw [gV1.pp]; exact x0V)).elim, fun _ h => (h (by rw [gV1.pp]; exact n0V)).elim, fun _ _ h => nomatch h⟩))))
  have gV2 := gV1.tie x0V n0V
  have hn := prim_over (u := .abs (isWeb (cW X.K) vl v (V1.tie x0 n0))) hn hV
  have hq := prim_over (u := .abs (isWeb (cW X.K) vl v (V1.tie x0 n0))) hq hV
  have h1 := prim_over (u := .abs (isWeb (cW X.K) vl v (V1.tie x0 n0))) h1 hV
  have h2 := prim_over (u := .abs (isWeb (cW X.K) vl v (V1.tie x0 n0))) h2 hV
  have hf := prim_over (u := .abs (isWeb (cW X.K) vl v (V1.tie x0 n0))) hf hV
  have hW : updA A2 v (.abs (isWeb (cW X.K) vl v (V1.tie x0 n0))) w = some (.abs (isWeb (cW X.K) wl w W)) := by rw [updA_ne wv]; exact hW
  have hV : updA A2 v (.abs (isWeb (cW X.K) vl v (V1.tie x0 n0))) v = some (.abs (isWeb (cW X.K) vl v (V1.tie x0 n0))) := updA_same
  generalize updA A2 v (.abs (isWeb (cW X.K) vl v (V1.tie x0 n0))) = A3 at hn hq h1 h2 hf hW hV ⊢
  generalize V1.tie x0 n0 = V2 at gV2 hV
  have gb := gV2.good
  refine wpb_cons (wps_putO (ET := NoX) WF.M.set WF.G.seq WF.set (room.mono (by decide)) pass0 (Ev.wp ev_bl (Ev.wp (B.nm (i := 1) rfl rfl (.inl rfl)) (Ev.wp (ev_tup (eva_cons (nml rfl hn) (eva_cons (nm0 rfl hn) eva_nil)) (show 2 ≤ sizeLine by decide)) ⟨v, rfl, web_insC hV, v, vl, V2, nl, n0, true, rfl, hV, ⟨gb.nd, gb.len, gb.rnd, gb.tnd, gb.tin⟩, fun _ _ _ => ?_, fun h => (h (by rw [gV2.pp]; exact nlV)).elim, fun _ h => (h (by rw [gV2.pp]; exact n0V)).elim, fun _ _ h => nomatch h⟩))))
  have gV3 := gV2.tie nlV n0V
  have hn := prim_over (u := .abs (isWeb (cW X.K) vl v (V2.tie nl n0))) hn hV
  have hq := prim_over (u := .abs (isWeb (cW X.K) vl v (V2.tie nl n0))) hq hV
  have h1 := prim_over (u := .abs (isWeb (cW X.K) vl v (V2.tie nl n0))) h1 hV
  have h2 := prim_over (u := .abs (isWeb (cW X.K) vl v (V2.tie nl n0))) h2 hV
  have hf := prim_over (u := .abs (isWeb (cW X.K) vl v (V2.tie nl n0))) hf hV
  have hW : updA A3 v (.abs (isWeb (cW X.K) vl v (V2.tie nl n0))) w = some (.abs (isWeb (cW X.K) wl w W)) := by rw [updA_ne wv]; exact hW
  have hV : updA A3 v (.abs (isWeb (cW X.K) vl v (V2.tie nl n0))) v = some (.abs (isWeb (cW X.K) vl v (V2.tie nl n0))) := updA_same
  generalize updA A3 v (.abs (isWeb (cW X.K) vl v (V2.tie nl n0))) = A4 at hn hq h1 h2 hf hW hV ⊢
  generalize V2.tie nl n0 = V3 at gV3 hV
  have gV3 : GW V3 ((ns ++ fs) ++ [x0]) ((ts ++ tl) ++ [(x0, n0), (nl, n0)]) := by
    have e : ((ts ++ tl) ++ [(x0, n0)]) ++ [(nl, n0)] = (ts ++ tl) ++ [(x0, n0), (nl, n0)] := by rw [List.append_assoc (ts ++ tl)]; rfl
    rw [← e]; exact gV3
  clear gV1 gV2 gV ga gb
  -- web
  have gW1 := gW.add hx1.1 hx1n (by omega)
  refine wpb_cons (wps_expr (wpe_meth (ET := NoX) WF.G.cls WF.G.mwel WF.wel (room.mono (by decide)) pass0 (Ev.wp (B.nm (i := 0) rfl rfl (.inl rfl)) ⟨w, rfl, web_insT hW fun _ _ _ => rfl, EvA.wp (eva_cons (fr1 rfl hf) eva_nil) ⟨w, wl, W, x1, rfl, hW, Nat.le_trans (isName_len hx1.1).2 (by decide), gW.good.len, fun _ _ _ => ?_, fun h => (by rw [hx1.1] at h; cases h), fun _ h => (hx1n (by rw [gW.pp] at h; exact h)).elim, fun _ _ h => (by rw [gW.pp] at h; omega)⟩⟩)))
  have hn := prim_over (u := .abs (isWeb (cW X.K) wl w (W.add x1))) hn hW
  have hq := prim_over (u := .abs (isWeb (cW X.K) wl w (W.add x1))) hq hW
  have h1 := prim_over (u := .abs (isWeb (cW X.K) wl w (W.add x1))) h1 hW
  have h2 := prim_over (u := .abs (isWeb (cW X.K) wl w (W.add x1))) h2 hW
  have hf := prim_over (u := .abs (isWeb (cW X.K) wl w (W.add x1))) hf hW
  have hV : updA A4 w (.abs (isWeb (cW X.K) wl w (W.add x1))) v = some (.abs (isWeb (cW X.K) vl v V3)) := by rw [updA_ne (Ne.symm wv)]; exact hV
  have hW : updA A4 w (.abs (isWeb (cW X.K) wl w (W.add x1))) w = some (.abs (isWeb (cW X.K) wl w (W.add x1))) := updA_same
  generalize updA A4 w (.abs (isWeb (cW X.K) wl w (W.add x1))) = A5 at hn hq h1 h2 hf hW hV ⊢
  generalize W.add x1 = W1 at gW1 hW
  have n0W : n0 ∈ ns ++ [x1] := List.mem_append_left _ hn0
  have nlW : nl ∈ ns ++ [x1] := List.mem_append_left _ hnl
  have x1W : x1 ∈ ns ++ [x1] := by simp
  have ga := gW1.good
  refine wpb_cons (wps_putO (ET := NoX) WF.M.set WF.G.seq WF.set (room.mono (by decide)) pass0 (Ev.wp ev_bl (Ev.wp (B.nm (i := 0) rfl rfl (.inl rfl)) (Ev.wp (ev_tup (eva_cons (nm0 rfl hn) (eva_cons (fr1 rfl hf) eva_nil)) (show 2 ≤ sizeLine by decide)) ⟨w, rfl, web_insC hW, w, wl, W1, n0, x1, true, rfl, hW, ⟨ga.nd, ga.len, ga.rnd, ga.tnd, ga.tin⟩, fun _ _ _ => ?_, fun h => (h (by rw [gW1.pp]; exact n0W)).elim, fun _ h => (h (by rw [gW1.pp]; exact x1W)).elim, fun _ _ h => nomatch h⟩))))
  have gW2 := gW1.tie n0W x1W
  have hn := prim_over (u := .abs (isWeb (cW X.K) wl w (W1.tie n0 x1))) hn hW
  have hq := prim_over (u := .abs (isWeb (cW X.K) wl w (W1.tie n0 x1))) hq hW
  have h1 := prim_over (u := .abs (isWeb (cW X.K) wl w (W1.tie n0 x1))) h1 hW
  have h2 := prim_over (u := .abs (isWeb (cW X.K) wl w (W1.tie n0 x1))) h2 hW
  have hf := prim_over (u := .abs (isWeb (cW X.K) wl w (W1.tie n0 x1))) hf hW
  have hV : updA A5 w (.abs (isWeb (cW X.K) wl w (W1.tie n0 x1))) v = some (.abs (isWeb (cW X.K) vl v V3)) := by rw [updA_ne (Ne.symm wv)]; exact hV
  have hW : updA A5 w (.abs (isWeb (cW X.K) wl w (W1.tie n0 x1))) w = some (.abs (isWeb (cW X.K) wl w (W1.tie n0 x1))) := updA_same
  generalize updA A5 w (.abs (isWeb (cW X.K) wl w (W1.tie n0 x1))) = A6 at hn hq h1 h2 hf hW hV ⊢
  generalize W1.tie n0 x1 = W2 at gW2 hW
  clear gW1 ga gW
  have s1' : (1 : Nat) ≤ sizeLine := by decide
  refine wpb_cons (B.set (i := 6) rfl (.inl rfl) (EvN.wp (EvN.to (evn_cat1 (B.nm (i := 3) rfl rfl (.inl rfl)) hq (evn_lst (ds := [pr (n0, x1)]) (eva_cons (ev_tup (eva_cons (nm0 rfl hn) (eva_cons (fr1 rfl hf) eva_nil)) (show 2 ≤ sizeLine by decide)) eva_nil) s1') (by rw [List.length_map]; show ts.length + 1 ≤ _; omega)) (show MO.lst (ts.map pr ++ [pr (n0, x1)]) = .lst ((ts ++ [(n0, x1)]).map pr) by rw [List.map_append]; rfl)) fun m hm => ?_))
  have sN := Sub.upd (o := (.prim (.lst ((ts ++ [(n0, x1)]).map pr)))) (Sub.refl A6) hm
  have hn := sN _ _ hn
  have hq := sN _ _ hq
  have h1 := sN _ _ h1
  have h2 := sN _ _ h2
  have hf := sN _ _ hf
  have hW := sN _ _ hW
  have hV := sN _ _ hV
  have hm : updA A6 m (.prim (.lst ((ts ++ [(n0, x1)]).map pr))) m = some (.prim (.lst ((ts ++ [(n0, x1)]).map pr))) := updA_same
  generalize updA A6 m (.prim (.lst ((ts ++ [(n0, x1)]).map pr))) = A7 at hn hq h1 h2 hf hW hV hm ⊢
  clear sN
  show WPB X _ [some (.ref w), some (.ref v), some (.ref n), some (.ref q), some (.tup [.ref g1, .ref g2]), some (.ref f), some (.ref m)] A7 _
  have tinW : ∀ u ∈ ts ++ [(n0, x1)], u.1 ∈ ns ++ [x1] ∧ u.2 ∈ ns ++ [x1] := fun u hu => (List.mem_append.mp hu).elim (fun z => ⟨List.mem_append_left _ (tin u z).1, List.mem_append_left _ (tin u z).2⟩) fun z => by
    rw [List.mem_singleton] at z
    rw [z]; exact ⟨n0W, x1W⟩
  have nmx : ∀ {A : AH} {δ : Ds} {p1 p2 p3 p4 p5 p6 : Pos} {j : Nat}, δ[2]? = some (some (.ref n)) → δ[5]? = some (some (.ref f)) → A n = some (.prim (.lst (ns.map .str))) → A f = some (.prim (.lst ((x0 :: x1 :: xr).map .str))) → EvN X (.BinOp (.Name "_law_names_here" p1) .Add (.List [.Subscript (.Name "_law_free" p2) (.Constant (.int 1) j p3) p4] p5) p6) δ A (.lst ((ns ++ [x1]).map .str)) := fun d2 d5 k1 k2 => EvN.to (evn_cat1 (B.nm (i := 2) rfl d2 (.inl rfl)) k1 (evn_lst (ds := [.str x1]) (eva_cons (fr1 d5 k2) eva_nil) s1') (by rw [List.length_map]; show ns.length + 1 ≤ _; omega)) (by rw [List.map_append]; rfl)
  refine wpb_cons (wps_ifE (k := false) (et_not (k := true) (et_val (same_ev (ns := ns ++ [x1]) (ts := ts ++ [(n0, x1)]) B.toBC MF.same MF.gsame (room.mono (by decide)) rfl (Ev.toWb (B.nm (i := 0) rfl rfl (.inl rfl)) hW gW2) (EvN.toW (nmx rfl rfl hn hf)) (Ev.toW (B.nm (i := 6) rfl rfl (.inl rfl)) hm) tinW (by rw [List.length_append]; show ts.length + 1 ≤ 100; omega)))) (fun z => Bool.noConfusion z) fun _ => wpb_nil ?_)
  have f1 : growsB W2 V3 = false := by
    cases h : growsB W2 V3 with
    | false => rfl
    | true =>
      have := ((grows_iff gW2 gV3).mp h x1 x1W).1
      rcases List.mem_append.mp this with z | z
      · exact (hx1.2 z).elim
      · exact (hne (List.mem_singleton.mp z).symm).elim
  have f2 : growsB V3 W2 = false := by
    cases h : growsB V3 W2 with
    | false => rfl
    | true =>
      have := ((grows_iff gV3 gW2).mp h x0 x0V).1
      rcases List.mem_append.mp this with z | z
      · exact (hx0n z).elim
      · exact (hne (List.mem_singleton.mp z)).elim
  refine wpb_cons (wps_ifE (k := false) (et_w (ew_or (k := false) (l := false) (EvT.to (et_notB (grows_ev WF.G MF.mgrows MF.grows (room.mono (by decide)) (B.nm (i := 0) rfl rfl (.inl rfl)) hW (B.nm (i := 1) rfl rfl (.inl rfl)) hV (fun z => (wv z).elim) gW2.good)) (by rw [f1]; rfl)) fun _ => ew_or1 (EvT.to (et_notB (grows_ev WF.G MF.mgrows MF.grows (room.mono (by decide)) (B.nm (i := 1) rfl rfl (.inl rfl)) hV (B.nm (i := 0) rfl rfl (.inl rfl)) hW (fun z => (wv z.symm).elim) gV3.good)) (by rw [f2]; rfl)))) (fun z => Bool.noConfusion z) fun _ => wpb_nil ?_)
  have ga := gW2.good
  refine wpb_cons (wps_putO (ET := NoX) WF.M.set WF.G.seq WF.set (room.mono (by decide)) pass0 (Ev.wp ev_bl (Ev.wp (B.nm (i := 0) rfl rfl (.inl rfl)) (Ev.wp (ev_tup (eva_cons (nm0 rfl hn) (eva_cons (nml rfl hn) eva_nil)) (show 2 ≤ sizeLine by decide)) ⟨w, rfl, web_insC hW, w, wl, W2, n0, nl, true, rfl, hW, ⟨ga.nd, ga.len, ga.rnd, ga.tnd, ga.tin⟩, fun _ _ _ => ?_, fun h => (h (by rw [gW2.pp]; exact n0W)).elim, fun _ h => (h (by rw [gW2.pp]; exact nlW)).elim, fun _ _ h => nomatch h⟩))))
  have gW3 := gW2.tie n0W nlW
  have hn := prim_over (u := .abs (isWeb (cW X.K) wl w (W2.tie n0 nl))) hn hW
  have hq := prim_over (u := .abs (isWeb (cW X.K) wl w (W2.tie n0 nl))) hq hW
  have h1 := prim_over (u := .abs (isWeb (cW X.K) wl w (W2.tie n0 nl))) h1 hW
  have h2 := prim_over (u := .abs (isWeb (cW X.K) wl w (W2.tie n0 nl))) h2 hW
  have hf := prim_over (u := .abs (isWeb (cW X.K) wl w (W2.tie n0 nl))) hf hW
  have hm := prim_over (u := .abs (isWeb (cW X.K) wl w (W2.tie n0 nl))) hm hW
  have hV : updA A7 w (.abs (isWeb (cW X.K) wl w (W2.tie n0 nl))) v = some (.abs (isWeb (cW X.K) vl v V3)) := by rw [updA_ne (Ne.symm wv)]; exact hV
  have hW : updA A7 w (.abs (isWeb (cW X.K) wl w (W2.tie n0 nl))) w = some (.abs (isWeb (cW X.K) wl w (W2.tie n0 nl))) := updA_same
  generalize updA A7 w (.abs (isWeb (cW X.K) wl w (W2.tie n0 nl))) = A8 at hn hq h1 h2 hf hm hW hV ⊢
  generalize W2.tie n0 nl = W3 at gW3 hW
  clear ga gW2 f1 f2
  have tinW3 : ∀ u ∈ (ts ++ [(n0, x1)]) ++ [(n0, nl)], u.1 ∈ ns ++ [x1] ∧ u.2 ∈ ns ++ [x1] := fun u hu => (List.mem_append.mp hu).elim (tinW u) fun z => by
    rw [List.mem_singleton] at z
    rw [z]; exact ⟨n0W, nlW⟩
  refine wpb_cons (wps_ifE (k := false) (et_not (k := true) (et_val (same_ev (ns := ns ++ [x1]) (ts := (ts ++ [(n0, x1)]) ++ [(n0, nl)]) B.toBC MF.same MF.gsame (room.mono (by decide)) rfl (Ev.toWb (B.nm (i := 0) rfl rfl (.inl rfl)) hW gW3) (EvN.toW (nmx rfl rfl hn hf)) (EvN.toW (EvN.to (evn_cat1 (B.nm (i := 6) rfl rfl (.inl rfl)) hm (evn_lst (ds := [pr (n0, nl)]) (eva_cons (ev_tup (eva_cons (nm0 rfl hn) (eva_cons (nml rfl hn) eva_nil)) (show 2 ≤ sizeLine by decide)) eva_nil) s1') (by rw [List.length_map, List.length_append]; show ts.length + 1 + 1 ≤ _; omega)) (show MO.lst ((ts ++ [(n0, x1)]).map pr ++ [pr (n0, nl)]) = .lst (((ts ++ [(n0, x1)]) ++ [(n0, nl)]).map pr) by rw [List.map_append (l₁ := ts ++ [(n0, x1)])]; rfl))) tinW3 (by rw [List.length_append, List.length_append]; show ts.length + 1 + 1 ≤ 100; omega)))) (fun z => Bool.noConfusion z) fun _ => wpb_nil ?_)
  have tinV : ∀ u ∈ (ts ++ tl) ++ [(x0, n0), (nl, n0)], u.1 ∈ (ns ++ fs) ++ [x0] ∧ u.2 ∈ (ns ++ fs) ++ [x0] := fun u hu => by
    rcases List.mem_append.mp hu with z | z
    · rcases List.mem_append.mp z with z | z
      · exact ⟨List.mem_append_left _ (List.mem_append_left _ (tin u z).1), List.mem_append_left _ (List.mem_append_left _ (tin u z).2)⟩
      · exact ⟨List.mem_append_left _ (hg.tin u z).1, List.mem_append_left _ (hg.tin u z).2⟩
    · simp only [List.mem_cons, List.not_mem_nil, or_false] at z
      rcases z with rfl | rfl
      · exact ⟨x0V, n0V⟩
      · exact ⟨nlV, n0V⟩
  refine wpb_cons (wps_ret (Ev.wp (same_ev (ns := (ns ++ fs) ++ [x0]) (ts := (ts ++ tl) ++ [(x0, n0), (nl, n0)]) B.toBC MF.same MF.gsame (room.mono (by decide)) rfl (Ev.toWb (B.nm (i := 1) rfl rfl (.inl rfl)) hV gV3) (EvN.toW (EvN.to (evn_cat1 (gr0 rfl) h1 (evn_lst (ds := [.str x0]) (eva_cons (fr0 rfl hf) eva_nil) s1') (by rw [List.length_map]; show (ns ++ fs).length + 1 ≤ _; omega)) (show MO.lst ((ns ++ fs).map TL.D.str ++ [.str x0]) = .lst (((ns ++ fs) ++ [x0]).map .str) by rw [List.map_append (l₁ := ns ++ fs)]; rfl))) (EvN.toW (EvN.to (evn_cat (evn_cat0 (B.nm (i := 3) rfl rfl (.inl rfl)) (gr1 rfl) hq h2 (by rw [List.length_map, List.length_map]; omega)) (evn_lst (ds := [pr (x0, n0), pr (nl, n0)]) (eva_cons (ev_tup (eva_cons (fr0 rfl hf) (eva_cons (nm0 rfl hn) eva_nil)) (show 2 ≤ sizeLine by decide)) (eva_cons (ev_tup (eva_cons (nml rfl hn) (eva_cons (nm0 rfl hn) eva_nil)) (show 2 ≤ sizeLine by decide)) eva_nil)) (show 2 ≤ sizeLine by decide)) (by rw [List.length_append, List.length_map, List.length_map]; show ts.length + tl.length + 2 ≤ _; omega)) (show MO.lst ((ts.map pr ++ tl.map pr) ++ [pr (x0, n0), pr (nl, n0)]) = .lst (((ts ++ tl) ++ [(x0, n0), (nl, n0)]).map pr) by rw [List.map_append (l₁ := ts ++ tl), List.map_append (l₁ := ts)]; rfl))) tinV (by rw [List.length_append, List.length_append]; show ts.length + tl.length + 2 ≤ 100; omega)) (RV.mk (qq _))))
end TL
/-! law k03: the law -/
namespace TL
open PySem PySem.Spec PyProof.Rows L2
variable {P : Program} {w : World} {K : PySem.W.Frag} {mg : Str → Option Value} {base : Heap} {k : Nat}
def tpLaw (K : PySem.W.Frag) : TSp := fun ds A Q E => ∃ a, ∃ ns : List Int, ds = [.ref a] ∧ RdL K A a (ns.map .int) ∧ ∀ A', Q (.bl true) A'
/-- a web, its people and who may act for whom, by the law's reckoning -/
def Tri (K : PySem.W.Frag) (A : AH) (z : TL.D) (p : Addr) (W : WebD) : Prop := ∃ lp n d, ∃ (ns : List Str) (ts : List (Str × Str)) (R : Str → List Str), z = .tup [.ref p, .ref n, .ref d] ∧ A p = some (.abs (isWeb (cW K) lp p W)) ∧ GW W ns ts ∧ A n = some (.prim (.lst (ns.map .str))) ∧ DictL A d ns R ∧ ∀ x ∈ ns, ∀ y, y ∈ R x ↔ Path ts x y
theorem Tri.sub {K : PySem.W.Frag} {A A' : AH} {z : TL.D} {p : Addr} {W : WebD} (h : Tri K A z p W) (s : TL.Sub A A') : Tri K A' z p W :=
  let ⟨lp, n, d, ns, ts, R, h1, h2, h3, h4, h5, h6⟩ := h; ⟨lp, n, d, ns, ts, R, h1, s _ _ h2, h3, s _ _ h4, h5.sub s, h6⟩
theorem strs_ne {A : AH} {n p : Addr} {xs : List Str} {l r : List TL.D} (h : A n = some (.prim (.lst (xs.map .str)))) (hp : A p = some (.prim (.lst (.tup l :: r)))) : n ≠ p := fun z => by
  rw [z, hp] at h
  cases xs with
  | nil => cases h
  | cons a b => cases h
theorem Tri.app {K : PySem.W.Frag} {A : AH} {z : TL.D} {p q : Addr} {W : WebD} {l r : List TL.D} {o : AO} (h : Tri K A z p W) (hq : A q = some (.prim (.lst (.tup l :: r)))) : Tri K (updA A q o) z p W := by
  obtain ⟨lp, n, d, ns, ts, R, h1, h2, h3, h4, ⟨ad, h5, h6⟩, h7⟩ := h
  refine ⟨lp, n, d, ns, ts, R, h1, ?_, h3, ?_, ⟨ad, ?_, fun x hx => ?_⟩, h7⟩
  · rw [updA_ne (fun e => by rw [e, hq] at h2; cases h2)]; exact h2
  · rw [updA_ne (strs_ne h4 hq)]; exact h4
  · rw [updA_ne (fun e => by rw [e, hq] at h5; cases h5)]; exact h5
  · rw [updA_ne (strs_ne (h6 x hx) hq)]; exact h6 x hx
theorem grows_eq {W V : WebD} {ns ms : List Str} {ts us : List (Str × Str)} {R S : Str → List Str} (gW : GW W ns ts) (gV : GW V ms us) (hR : ∀ x ∈ ns, ∀ y, y ∈ R x ↔ Path ts x y) (hS : ∀ x ∈ ms, ∀ y, y ∈ S x ↔ Path us x y) : growsB W V = growsL ns R ms S := by
  rw [Bool.eq_iff_iff, grows_iff gW gV]
  unfold growsL
  rw [List.all_eq_true]
  constructor
  · intro h a ha
    obtain ⟨h1, h2⟩ := h a ha
    rw [Bool.and_eq_true_iff, List.all_eq_true]
    exact ⟨decide_eq_true h1, fun x hx => decide_eq_true ((hS a h1 x).mpr (h2 x ((hR a ha x).mp hx)))⟩
  · intro h a ha
    have h' := h a ha
    rw [Bool.and_eq_true_iff, List.all_eq_true] at h'
    have hm : a ∈ ms := of_decide_eq_true h'.1
    exact ⟨hm, fun x hx => (hS a hm x).mp (of_decide_eq_true (h'.2 x ((hR a ha x).mpr hx)))⟩
theorem cutD_last {α : Type} {xs : List α} : cutD xs none (some (-1)) = xs.dropLast := by
  unfold cutD
  rw [List.dropLast_eq_take]
  simp [HT.sIx]
  omega
theorem grown_in {K : PySem.W.Frag} {A : AH} {w wl : Addr} {W : WebD} {ns fs : List Str} {ts tl : List (Str × Str)} {Q : TQ} {E : TXQ} (hw : A w = some (.abs (isWeb (cW K) wl w W))) (gW : GW W ns ts) (gt : goodTo (ns ++ fs)) (htl : ∀ t ∈ tl, t.1 ∈ ns ++ fs ∧ t.2 ∈ ns ++ fs)
    (q : ∀ V q lq, GW V (ns ++ fs) (ts ++ tl) → A q = none → A lq = none → Q (.ref q) (updA A q (.abs (isWeb (cW K) lq q V)))) : tpGrown K [.ref w, .tup (fs.map .str), .tup (tl.map pr)] A Q E :=
  ⟨w, wl, W, ns, ts, fs, tl, rfl, hw, gW, gt.sz, fun _ _ => q,
    fun pre n post e _ => (by obtain ⟨h1, h2, h3⟩ := gt.noBad e; exact ⟨fun z => (by rw [h1] at z; cases z), fun _ z => (h2 z).elim, fun _ _ z => (by omega)⟩),
    fun _ pre t post e _ => (by have := htl t (by rw [e]; simp); exact ⟨fun z => (z this.1).elim, fun _ z => (z this.2).elim⟩)⟩
structure LawF (P : Program) (w : World) (K : PySem.W.Frag) (mg : Str → Option Value) (base : Heap) : Prop where
  A : ApF P w K mg base
  tape : FnT P w K mg base 2 (He.ga K "_law_tape") (tpTape K)
  names : FnT P w K mg base 3 (He.ga K "_law_names") tpNames
  lties : FnT P w K mg base 2 (He.ga K "_law_ties") tpLTies
  reach : FnT P w K mg base 2 (He.ga K "_law_reach") tpReachN
  growth : FnT P w K mg base 3 (He.ga K "_law_growth") (tpGrowth K)
  lgrown : FnT P w K mg base 8 (He.ga K "_law_grown") (tpLGrown K)
  built : FnT P w K mg base 8 (He.ga K "_law_built") (tpBuilt K)
  lgrows : FnT P w K mg base 2 (He.ga K "_law_grows") tpLGrows
  slow : FnT P w K mg base 10 (He.ga K "_law_slow") (tpSlow K)
  empty : FnT P w K mg base 10 (He.ga K "_law_empty") (tpEmpty K)
  apart : FnT P w K mg base 10 (He.ga K "_law_apart") (tpApart K)
  gtape : GF K mg "_law_tape"
  gnames : GF K mg "_law_names"
  glties : GF K mg "_law_ties"
  greach : GF K mg "_law_reach"
  ggrowth : GF K mg "_law_growth"
  glgrown : GF K mg "_law_grown"
  gbuilt : GF K mg "_law_built"
  glgrows : GF K mg "_law_grows"
  gslow : GF K mg "_law_slow"
  gempty : GF K mg "_law_empty"
  gapart : GF K mg "_law_apart"
theorem sc_law : FnScope N_law ["_law_script"] (defScope s_law) := ⟨rfl, rfl, rfl, by decide +kernel, rfl, by decide +kernel, by decide +kernel⟩
theorem body_law (LF : LawF P w K mg base) : BodyT P w K mg base N_law (defScope s_law) 10 (defBody s_law) (tpLaw K) := by
  intro X bd ds A Q ET hx ⟨a, ns0, e, ha, q⟩
  obtain ⟨rfl, rfl, rfl, rfl, rfl, B, room, _, _⟩ := bd
  subst e
  have MF := LF.A.M
  have WF := MF.web X rfl rfl rfl rfl rfl (room.mono (by decide))
  have hu := room.units
  have u1 : X.A.units + 1 < cLine := by omega
  have g2 : ∀ {A : AH} {a b : Addr} {o u : AO}, A a = some u → A b = none → updA A b o a = some u := fun h h2 => Sub.upd (Sub.refl _) h2 _ _ h
  have sq : ∀ {A : AH} {b : Addr} {o : AO}, A b = none → TL.Sub A (updA A b o) := fun h => Sub.upd (Sub.refl _) h
  -- tape, names, ties, reach, web
  refine wpb_cons (B.set (i := 1) rfl (.inl rfl) ((B.call (ET := NoX) LF.tape (room.mono (by decide)) rfl LF.gtape.g LF.gtape.k pass0 (EvA.wp (eva_cons ((B.nm (i := 0) rfl rfl (.inl rfl))) (eva_cons ev_int (eva_cons ev_int eva_nil))) ⟨a, ns0, 0, 16, rfl, ha, by decide, by decide, by decide, by decide, fun tp t hlen hok ht => ?_⟩))))
  have hlen : tp.length = 16 := hlen
  have ha := ha.sub (sq (o := .prim (.lst (tp.map .int))) ht)
  have ht : updA A t (.prim (.lst (tp.map .int))) t = some (.prim (.lst (tp.map .int))) := updA_same
  generalize updA A t (.prim (.lst (tp.map .int))) = A1 at ha ht ⊢
  refine wpb_cons (B.set (i := 2) rfl (.inl rfl) ((B.call (ET := NoX) LF.names (room.mono (by decide)) rfl LF.gnames.g LF.gnames.k pass0 (EvA.wp (eva_cons ((B.nm (i := 1) rfl rfl (.inl rfl))) eva_nil) ⟨t, tp, rfl, ht, by omega, hok, fun ns n2 hns hn2 => ?_⟩))))
  have n6 := hns.le
  have n1 := hns.pos
  have ha := ha.sub (sq (o := .prim (.lst (ns.map .str))) hn2)
  have ht := g2 (o := .prim (.lst (ns.map .str))) ht hn2
  have hN : updA A1 n2 (.prim (.lst (ns.map .str))) n2 = some (.prim (.lst (ns.map .str))) := updA_same
  clear hn2
  generalize updA A1 n2 (.prim (.lst (ns.map .str))) = A2 at ha ht hN ⊢
  refine wpb_cons (B.set (i := 3) rfl (.inl rfl) ((B.call (ET := NoX) LF.lties (room.mono (by decide)) rfl LF.glties.g LF.glties.k pass0 (EvA.wp (eva_cons ((B.nm (i := 1) rfl rfl (.inl rfl))) (eva_cons ((B.nm (i := 2) rfl rfl (.inl rfl))) eva_nil)) ⟨t, n2, tp, ns, rfl, ht, hN, by omega, hok, n1, n6, fun ts q2 htl hq2 => ?_⟩))))
  have ha := ha.sub (sq (o := .prim (.lst (ts.map pr))) hq2)
  have hN := g2 (o := .prim (.lst (ts.map pr))) hN hq2
  have hT : updA A2 q2 (.prim (.lst (ts.map pr))) q2 = some (.prim (.lst (ts.map pr))) := updA_same
  clear hq2 ht
  generalize updA A2 q2 (.prim (.lst (ts.map pr))) = A3 at ha hN hT ⊢
  refine wpb_cons (B.set (i := 4) rfl (.inl rfl) ((B.call (ET := NoX) LF.reach (room.mono (by decide)) rfl LF.greach.g LF.greach.k pass0 (EvA.wp (eva_cons ((B.nm (i := 2) rfl rfl (.inl rfl))) (eva_cons ((B.nm (i := 3) rfl rfl (.inl rfl))) eva_nil)) ⟨n2, q2, ns, ts, rfl, hN, hT, hns.nd, by omega, htl.2, fun d A4 R sA hD hR => ?_⟩))))
  have ha := ha.sub sA
  have hN := sA _ _ hN
  have hT := sA _ _ hT
  clear sA
  refine wpb_cons (B.set (i := 5) rfl (.inl rfl) ((B.call (ET := NoX) MF.lweb (room.mono (by decide)) rfl MF.glweb.g MF.glweb.k pass0 (EvA.wp (eva_cons ((B.nm (i := 2) rfl rfl (.inl rfl))) (eva_cons ((B.nm (i := 3) rfl rfl (.inl rfl))) eva_nil)) ⟨n2, q2, ns, ts, rfl, hN, hT, hns.nd, by omega, hns.good, htl.2, fun w wl hw hwl => ?_⟩))))
  have gW : GW (webT ns ts) ns ts := GW.webT ⟨hns.nd, by omega, fun x hx => (hns.good x hx).1⟩ htl.2
  have ha := ha.sub (sq (o := .abs (isWeb (cW X.K) wl w (webT ns ts))) hw)
  have hN := g2 (o := .abs (isWeb (cW X.K) wl w (webT ns ts))) hN hw
  have hT := g2 (o := .abs (isWeb (cW X.K) wl w (webT ns ts))) hT hw
  have hD := hD.sub (sq (o := .abs (isWeb (cW X.K) wl w (webT ns ts))) hw)
  have hW : updA A4 w (.abs (isWeb (cW X.K) wl w (webT ns ts))) w = some (.abs (isWeb (cW X.K) wl w (webT ns ts))) := updA_same
  clear hw hwl
  generalize updA A4 w (.abs (isWeb (cW X.K) wl w (webT ns ts))) = A5 at ha hN hT hD hW ⊢
  generalize webT ns ts = W at gW hW
  -- growth, grown
  refine wpb_cons (B.set (i := 6) rfl (.inl rfl) ((B.call (ET := NoX) LF.growth (room.mono (by decide)) rfl LF.ggrowth.g LF.ggrowth.k pass0 (EvA.wp (eva_cons ((B.nm (i := 0) rfl rfl (.inl rfl))) (eva_cons ev_int (eva_cons ((B.nm (i := 2) rfl rfl (.inl rfl))) eva_nil))) ⟨a, ns0, 1, n2, ns, rfl, ha, by decide, by decide, hN, hns, fun fs tl g1 g2' A6 hg sA h1 h2 => ?_⟩))))
  have ha := ha.sub sA
  have hD := hD.sub sA
  have hN := sA _ _ hN
  have hT := sA _ _ hT
  have hW := sA _ _ hW
  clear sA
  have gr0 : ∀ {δ : Ds} {A : AH} {j : Nat} {q1 q2 q3 : Pos}, δ[6]? = some (some (.tup [.ref g1, .ref g2'])) → Ev X (.Subscript (.Name "_law_grown_here" q1) (.Constant (.int 0) j q2) q3) δ A (.ref g1) := fun h => ev_ix (B.nm (i := 6) rfl h (.inl rfl)) ev_int (ixv_tup (z := .ref g1) rfl)
  have gr1 : ∀ {δ : Ds} {A : AH} {j : Nat} {q1 q2 q3 : Pos}, δ[6]? = some (some (.tup [.ref g1, .ref g2'])) → Ev X (.Subscript (.Name "_law_grown_here" q1) (.Constant (.int 1) j q2) q3) δ A (.ref g2') := fun h => ev_ix (B.nm (i := 6) rfl h (.inl rfl)) ev_int (ixv_tup (z := .ref g2') rfl)
  have f3 := hg.le
  have t5 := hg.tle
  have t8 := htl.1
  have ml : (ns ++ fs).length ≤ 9 := by rw [List.length_append]; omega
  have gtm : goodTo (ns ++ fs) := ⟨hg.nd, by omega, fun x hx => (List.mem_append.mp hx).elim (fun z => (hns.good x z).1) fun z => (hg.good x z).1⟩
  have hcut : cutD ((ns ++ fs).map TL.D.str) (some (ns.length : Int)) none = fs.map TL.D.str := by
    rw [cutD_dropN (j := ns.length) (by rw [List.length_map, List.length_append]; omega) rfl, ← List.map_drop, List.drop_left]
  refine wpb_cons (B.set (i := 7) rfl (.inl rfl) (B.call (ET := NoX) LF.lgrown (room.mono (by decide)) rfl LF.glgrown.g LF.glgrown.k pass0 (wpa_cons (Ev.wp (B.nm (i := 5) rfl rfl (.inl rfl)) (wpa_cons (Ev.wp (gr1 rfl) (wpa_cons (EvN.wp (EvN.to (evn_slice (gr0 rfl) (.some (Ev.to (B.eB rfl MF.fr.len bt_len (eva_cons ((B.nm (i := 2) rfl rfl (.inl rfl))) eva_nil) (cav_len (.inl hN))) (by rw [List.length_map]))) .none (.inl h1)) (by rw [hcut])) fun r hr => wpa_nil ⟨w, wl, W, g2', r, ns, ts, fs, tl, rfl, g2 hW hr, gW, g2 h2 hr, updA_same, gtm, hg.tin, t5, fun V v vl gV hv hvl => ?_⟩))))))))
  have sA : TL.Sub A6 (updA (updA A6 r (.prim (.lst (fs.map .str)))) v (.abs (isWeb (cW X.K) vl v V))) := (sq hr).trans (sq hv)
  have hv0 : A6 v = none := (sq hr).none hv
  have wv : w ≠ v := fun z => by rw [← z, hW] at hv0; cases hv0
  have hV : updA (updA A6 r (.prim (.lst (fs.map .str)))) v (.abs (isWeb (cW X.K) vl v V)) v = some (.abs (isWeb (cW X.K) vl v V)) := updA_same
  have ha := ha.sub sA
  have hD := hD.sub sA
  have hN := sA _ _ hN
  have hT := sA _ _ hT
  have hW := sA _ _ hW
  have h1 := sA _ _ h1
  have h2 := sA _ _ h2
  show WPB X _ [some (.ref a), some (.ref t), some (.ref n2), some (.ref q2), some (.ref d), some (.ref w), some (.tup [.ref g1, .ref g2']), some (.ref v), none, none, none, none, none, none, none] (updA (updA A6 r (.prim (.lst (fs.map .str)))) v (.abs (isWeb (cW X.K) vl v V))) _
  generalize updA (updA A6 r (.prim (.lst (fs.map .str)))) v (.abs (isWeb (cW X.K) vl v V)) = A7 at ha hD hN hT hW h1 h2 hV ⊢
  clear sA hr hv hvl hv0
  have htin : ∀ t ∈ ts ++ tl, t.1 ∈ ns ++ fs ∧ t.2 ∈ ns ++ fs := fun t ht => (List.mem_append.mp ht).elim (fun z => ⟨List.mem_append_left _ (htl.2 t z).1, List.mem_append_left _ (htl.2 t z).2⟩) (hg.tin t)
  have z1000 : (1000 : Nat) ≤ sizeLine := by decide
  have tln : (ts ++ tl).length ≤ 100 := by rw [List.length_append]; omega
  have mor : ∀ {δ : Ds} {A : AH} {p1 p2 p3 p4 p5 : Pos} {j : Nat}, δ[3]? = some (some (.ref q2)) → δ[6]? = some (some (.tup [.ref g1, .ref g2'])) → A q2 = some (.prim (.lst (ts.map pr))) → A g2' = some (.prim (.lst (tl.map pr))) → EvN X (.BinOp (.Name "_law_ties_here" p1) .Add (.Subscript (.Name "_law_grown_here" p2) (.Constant (.int 1) j p3) p4) p5) δ A (.lst ((ts ++ tl).map pr)) := fun d3 d6 k1 k2 => EvN.to (evn_cat0 (B.nm (i := 3) rfl d3 (.inl rfl)) (gr1 d6) k1 k2 (by rw [List.length_map, List.length_map]; omega)) (by rw [List.map_append])
  refine wpb_cons (wps_ifE (k := false) (et_w (ew_or (k := false) (l := false) (et_not (k := true) (et_val (same_ev B.toBC MF.same MF.gsame (room.mono (by decide)) rfl (Ev.toWb (B.nm (i := 7) rfl rfl (.inl rfl)) hV gV) (Ev.toW (gr0 rfl) h1) (EvN.toW (mor rfl rfl hT h2)) htin tln))) fun _ => ew_or1 (et_not (k := true) (et_val (same_ev B.toBC MF.same MF.gsame (room.mono (by decide)) rfl (Ev.toWb (B.nm (i := 5) rfl rfl (.inl rfl)) hW gW) (Ev.toW (B.nm (i := 2) rfl rfl (.inl rfl)) hN) (Ev.toW (B.nm (i := 3) rfl rfl (.inl rfl)) hT) htl.2 (by omega)))))) (fun z => Bool.noConfusion z) fun _ => wpb_nil ?_)
  -- tie
  obtain ⟨n0, nr, en⟩ : ∃ n0 nr, ns = n0 :: nr := by
    cases h : ns with
    | nil => rw [h] at n1; cases n1
    | cons a b => exact ⟨a, b, rfl⟩
  obtain ⟨pl, nl, el⟩ : ∃ pl nl, ns = pl ++ [nl] := ⟨ns.dropLast, ns.getLast (by rw [en]; simp), (List.dropLast_concat_getLast _).symm⟩
  have ix0 : atI (ns.map TL.D.str) 0 = some (.str n0) := by rw [en]; exact atI_pos (xs := (n0 :: nr).map TL.D.str) (i := 0) (by decide) (by simp)
  have ixl : atI (ns.map TL.D.str) (-1) = some (.str nl) := by rw [el, List.map_append]; exact atI_last
  have hn0 : n0 ∈ ns := by rw [en]; simp
  have hnl : nl ∈ ns := by rw [el]; simp
  clear en el
  have s1' : (1 : Nat) ≤ sizeLine := by decide
  have s2' : (2 : Nat) ≤ sizeLine := by decide
  refine wpb_cons (B.set (i := 8) rfl (.inl rfl) (Ev.wp (d := pr (nl, n0)) (ev_tup (eva_cons (ev_ix (B.nm (i := 2) rfl rfl (.inl rfl)) ev_neg (ixv_list (.inl hN) (z := .str nl) ixl)) (eva_cons (ev_ix (B.nm (i := 2) rfl rfl (.inl rfl)) ev_int (ixv_list (.inl hN) (z := .str n0) ix0)) eva_nil)) (show 2 ≤ sizeLine by decide)) ?_))
  show WPB X _ [some (.ref a), some (.ref t), some (.ref n2), some (.ref q2), some (.ref d), some (.ref w), some (.tup [.ref g1, .ref g2']), some (.ref v), some (pr (nl, n0)), none, none, none, none, none, none] A7 _
  have tin1 : ∀ u ∈ ts ++ [(nl, n0)], u.1 ∈ ns ∧ u.2 ∈ ns := fun u hu => (List.mem_append.mp hu).elim (htl.2 u) fun z => by
    rw [List.mem_singleton] at z
    rw [z]; exact ⟨hnl, hn0⟩
  have gN0 : goodTo (ns ++ []) := by rw [List.append_nil]; exact gW.to
  have gwb : ∀ B1, TL.Sub A7 B1 → ∀ Q1 : TQ, (∀ p lp V A', TL.Sub B1 A' → A' p = some (.abs (isWeb (cW X.K) lp p V)) → GW V ns (ts ++ [(nl, n0)]) → Q1 (.ref p) A') → tpGrown X.K [.ref w, .tup [], .tup [pr (nl, n0)]] B1 Q1 NoX := fun B1 k1 Q1 q1 => grown_in (fs := []) (tl := [(nl, n0)]) (k1 _ _ hW) gW gN0 (fun u hu => by rw [List.append_nil]; rw [List.mem_singleton] at hu; rw [hu]; exact ⟨hnl, hn0⟩) fun V q lq gV h3 h4 => q1 q lq V _ (sq h3) updA_same (by rw [List.append_nil] at gV; exact gV)
  refine wpb_cons (wps_ifE (k := false) (et_not (k := true) (et_val (same_ev (ns := ns) (ts := ts ++ [(nl, n0)]) B.toBC MF.same MF.gsame (room.mono (by decide)) rfl (fun B1 k1 Q1 q1 => wpe_meth (ET := NoX) WF.G.cls MF.gr.m MF.grown (room.mono (by decide)) pass0 (Ev.wp (Ev.sub (B.nm (i := 5) rfl rfl (.inl rfl)) k1) ⟨w, rfl, web_insT (k1 _ _ hW) (fun _ _ _ => rfl), EvA.wp (EvA.sub (eva_cons ((B.nm (i := 8) rfl rfl (.inl rfl))) eva_nil) k1) ⟨.ref w, [pr (nl, n0)], rfl, s1', gwb B1 k1 Q1 q1⟩⟩)) (Ev.toW (B.nm (i := 2) rfl rfl (.inl rfl)) hN) (EvN.toW (EvN.to (evn_cat1 (B.nm (i := 3) rfl rfl (.inl rfl)) hT (evn_lst (ds := [pr (nl, n0)]) (eva_cons ((B.nm (i := 8) rfl rfl (.inl rfl))) eva_nil) s1') (by rw [List.length_map]; show ts.length + 1 ≤ _; omega)) (show MO.lst (ts.map pr ++ [pr (nl, n0)]) = .lst ((ts ++ [(nl, n0)]).map pr) by rw [List.map_append]; rfl))) tin1 (by rw [List.length_append]; show ts.length + 1 ≤ 100; omega)))) (fun z => Bool.noConfusion z) fun _ => wpb_nil ?_)
  clear gwb tin1
  -- closed
  have hRl : ∀ x ∈ ns, (R x).length ≤ 6 := fun x hx => Nat.le_trans (len_le_of_sub (hR x hx).1 fun y hy => (((hR x hx).2 y).mp hy).inn hx htl.2) n6
  refine wpb_cons (B.set (i := 9) rfl (.inl rfl) (EvN.wp (evn_lst eva_nil (Nat.zero_le _)) fun c0 hc0 => ?_))
  have sA := sq (A := A7) (o := .prim (.lst [])) hc0
  have ha := ha.sub sA
  have hD := hD.sub sA
  have hN := sA _ _ hN
  have hT := sA _ _ hT
  have hW := sA _ _ hW
  have h1 := sA _ _ h1
  have h2 := sA _ _ h2
  have hV := sA _ _ hV
  have hc0 : updA A7 c0 (.prim (.lst [])) c0 = some (.prim (.lst (([] : List (Str × Str)).map pr))) := updA_same
  generalize updA A7 c0 (.prim (.lst [])) = A8 at ha hD hN hT hW h1 h2 hV hc0 ⊢
  clear sA
  have len_cl : ∀ {l : List Str}, (∀ x ∈ l, x ∈ ns) → (l.flatMap fun x => (R x).map fun y => (x, y)).length ≤ l.length * 6 := fun {l} => by
    induction l with
    | nil => intro _; exact Nat.zero_le _
    | cons x r ih =>
      intro h
      have h1 := ih fun y hy => h y (List.mem_cons_of_mem _ hy)
      have h2 := hRl x (h x List.mem_cons_self)
      rw [List.flatMap_cons, List.length_append, List.length_map, List.length_cons]
      omega
  refine wpb_cons (B.for_ (wpi_list (Ev.wp (B.nm (i := 2) rfl rfl (.inl rfl)) ⟨n2, _, rfl, hN, fun i δ' A' => ∃ (c : Addr) (v10 : Option TL.D), TL.Sub A8 A' ∧ A' c = some (.prim (.lst (((ns.take i).flatMap fun x => (R x).map fun y => (x, y)).map pr))) ∧ δ' = [some (.ref a), some (.ref t), some (.ref n2), some (.ref q2), some (.ref d), some (.ref w), some (.tup [.ref g1, .ref g2']), some (.ref v), some (pr (nl, n0)), some (.ref c), v10, none, none, none, none], ⟨c0, none, Sub.refl _, hc0, rfl⟩, fun i δ' A' _ ⟨_, _, s, _⟩ => s _ _ hN, fun i δ' A' hi ⟨c, v10, s, hc, eδ⟩ => ?_, fun δ' A' ⟨c, v10, s, hc, eδ⟩ => ?_⟩)))
  · subst eδ
    have hi' : i < ns.length := by simpa using hi
    refine WPG.to (B.tn (i := 10) rfl (.inr rfl) ?_) (getD_map hi')
    have hm := List.getElem_mem hi'
    have etk : ns.take (i + 1) = ns.take i ++ [ns[i]] := take_snoc (List.getElem?_eq_getElem hi')
    have l1 := len_cl (l := ns.take i) fun x hx => List.mem_of_mem_take hx
    have l2 : (ns.take i).length ≤ 6 := by rw [List.length_take]; omega
    generalize ns[i] = x at hm etk
    have l3 := hRl x hm
    obtain ⟨ad, hd, had⟩ := hD.sub s
    have efl : (((R x).filter fun _ => true).map fun y => pr (x, y)) = ((R x).map fun y => (x, y)).map pr := by rw [List.filter_eq_self.mpr (fun _ _ => rfl), List.map_map]; rfl
    refine wpb_cons (B.set (i := 9) rfl (.inl rfl) (EvN.wp (EvN.to (evn_cat1 (B.nm (i := 9) rfl rfl (.inl rfl)) hc (BC.elc (own := [("_law_person", 11)]) (ys := R x) (en := TL.D.str) .no (fun _ => true) (fun y => pr (x, y)) B (by decide +kernel) (j := 11) rfl rfl (by decide) (evi_list (ev_dget (k := .inr x) u1 (B.nm (i := 4) rfl rfl (.inl rfl)) (B.nm (i := 10) rfl rfl (.inr (.inl rfl))) hd (by rw [valD_web, if_pos hm])) (had x hm)) (by omega) (fun _ _ => rfl) fun y hy _ st H0 C cl fp => (ev_tup (eva_cons ((B.toBC.blk.nm (i := 10) rfl rfl (.inr (.inr rfl)))) (eva_cons ((B.toBC.blk.nm (i := 11) rfl rfl (.inl rfl))) eva_nil)) (show 2 ≤ sizeLine by decide))) (by rw [efl, List.length_map, List.length_map, List.length_map]; omega)) (show MO.lst (((ns.take i).flatMap fun x => (R x).map fun y => (x, y)).map pr ++ ((R x).filter fun _ => true).map fun y => pr (x, y)) = .lst (((ns.take (i + 1)).flatMap fun x => (R x).map fun y => (x, y)).map pr) by rw [efl, etk, List.flatMap_append, List.map_append (l₁ := List.flatMap _ (ns.take i)), List.flatMap_cons, List.flatMap_nil, List.append_nil])) fun c2 hc2 => ?_))
    exact wpb_nil ⟨_, Vw.refl _, c2, some (.str x), Sub.upd s (s.none hc2), updA_same, rfl⟩
  subst eδ
  rw [List.length_map, List.take_length] at hc
  have ncl : (ns.flatMap fun x => (R x).map fun y => (x, y)).length ≤ 36 := Nat.le_trans (len_cl (l := ns) fun x hx => hx) (by omega)
  have incl : ∀ u ∈ (ns.flatMap fun x => (R x).map fun y => (x, y)), u.1 ∈ ns ∧ u.2 ∈ ns := fun u hu => by
    obtain ⟨x, hx, h⟩ := List.mem_flatMap.mp hu
    obtain ⟨y, hy, rfl⟩ := List.mem_map.mp h
    exact ⟨hx, (((hR x hx).2 y).mp hy).inn hx htl.2⟩
  generalize (ns.flatMap fun x => (R x).map fun y => (x, y)) = cls at hc ncl incl
  have ha := ha.sub s
  have hD := hD.sub s
  have hN := s _ _ hN
  have hT := s _ _ hT
  have hW := s _ _ hW
  have h1 := s _ _ h1
  have h2 := s _ _ h2
  have hV := s _ _ hV
  clear s len_cl hc0 hRl
  -- webs
  refine wpb_cons (B.set (i := 12) rfl (.inl rfl) (wpe_lst (wpa_cons (Ev.wp (ev_tup (eva_cons ((B.nm (i := 5) rfl rfl (.inl rfl))) (eva_cons ((B.nm (i := 2) rfl rfl (.inl rfl))) (eva_cons ((B.nm (i := 4) rfl rfl (.inl rfl))) eva_nil))) (show 3 ≤ sizeLine by decide)) (wpa_cons (wpe_tup (wpa_cons (Ev.wp (B.nm (i := 7) rfl rfl (.inl rfl)) (wpa_cons (Ev.wp (gr0 rfl) (wpa_cons (B.call (ET := NoX) LF.reach (room.mono (by decide)) rfl LF.greach.g LF.greach.k pass0 (wpa_cons (Ev.wp (gr0 rfl) (wpa_cons (EvN.wp (mor rfl rfl hT h2) fun tc htc => wpa_nil ⟨g1, tc, ns ++ fs, ts ++ tl, rfl, g2 h1 htc, updA_same, hg.nd, by omega, htin, fun d2 A9 R2 sA hD2 hR2 => wpa_nil ⟨(show 3 ≤ sizeLine by decide), wpa_nil ⟨s2', fun p12 hp12 => ?_⟩⟩⟩))))))))))))))))
  have sA := (sq htc).trans sA
  have ha := ha.sub sA
  have hD := hD.sub sA
  have hN := sA _ _ hN
  have hT := sA _ _ hT
  have hW := sA _ _ hW
  have h1 := sA _ _ h1
  have h2 := sA _ _ h2
  have hV := sA _ _ hV
  have hc := sA _ _ hc
  have s9 : TL.Sub A9 (updA A9 p12 (.prim (.lst [.tup [.ref w, .ref n2, .ref d], .tup [.ref v, .ref g1, .ref d2]]))) := sq hp12
  have h12 : updA A9 p12 (.prim (.lst [.tup [.ref w, .ref n2, .ref d], .tup [.ref v, .ref g1, .ref d2]])) p12 = some (.prim (.lst [.tup [.ref w, .ref n2, .ref d], .tup [.ref v, .ref g1, .ref d2]])) := updA_same
  show WPB X _ [some (.ref a), some (.ref t), some (.ref n2), some (.ref q2), some (.ref d), some (.ref w), some (.tup [.ref g1, .ref g2']), some (.ref v), some (pr (nl, n0)), some (.ref c), v10, none, some (.ref p12), none, none] (updA A9 p12 (.prim (.lst [.tup [.ref w, .ref n2, .ref d], .tup [.ref v, .ref g1, .ref d2]]))) _
  generalize updA A9 p12 (.prim (.lst [.tup [.ref w, .ref n2, .ref d], .tup [.ref v, .ref g1, .ref d2]])) = B0 at s9 h12 ⊢
  clear sA htc
  have T0 : Tri X.K A9 (.tup [.ref w, .ref n2, .ref d]) w W := ⟨wl, n2, d, ns, ts, R, rfl, hW, gW, hN, hD, fun x hx => (hR x hx).2⟩
  have T1 : Tri X.K A9 (.tup [.ref v, .ref g1, .ref d2]) v V := ⟨vl, g1, d2, ns ++ fs, ts ++ tl, R2, rfl, hV, gV, h1, hD2, fun x hx => (hR2 x hx).2⟩
  have T0 := T0.sub s9
  have T1 := T1.sub s9
  -- another web
  refine wpb_cons (wps_expr (wpe_append (Ev.wp (B.nm (i := 12) rfl rfl (.inl rfl)) ⟨p12, rfl, ⟨_, h12⟩, B.call (ET := NoX) LF.built (room.mono (by decide)) rfl LF.gbuilt.g LF.gbuilt.k pass0 (wpa_cons (Ev.wp (B.nm (i := 2) rfl rfl (.inl rfl)) (wpa_cons (B.call (ET := NoX) LF.lties (room.mono (by decide)) rfl LF.glties.g LF.glties.k pass0 (wpa_cons (B.call (ET := NoX) LF.tape (room.mono (by decide)) rfl LF.gtape.g LF.gtape.k pass0 (EvA.wp (eva_cons ((B.nm (i := 0) rfl rfl (.inl rfl))) (eva_cons ev_int (eva_cons ev_int eva_nil))) ⟨a, ns0, 2, 16, rfl, ha.sub s9, by decide, by decide, by decide, by decide, fun tp2 t2 hlen2 hok2 ht2 => wpa_cons (Ev.wp (B.nm (i := 2) rfl rfl (.inl rfl)) (wpa_nil ⟨t2, n2, tp2, ns, rfl, updA_same, g2 (s9 _ _ hN) ht2, Nat.le_of_eq (Eq.symm hlen2), hok2, n1, n6, fun ts3 q3 htl3 hq3 => wpa_nil ⟨n2, q3, ns, ts3, rfl, g2 (g2 (s9 _ _ hN) ht2) hq3, updA_same, gW.to, (fun x hx => (hns.good x hx).2), htl3.2, fun p2 lp2 V2 d3 R3 B1 gV2 hp2 sA hp2' hD3 hR3 => ⟨_, sA _ _ (g2 (g2 h12 ht2) hq3), (show 2 < sizeLine by decide), ?_⟩⟩⟩))⟩)))))))⟩)))
  have s1 : TL.Sub B0 B1 := ((sq ht2).trans (sq hq3)).trans sA
  have hp2 : B0 p2 = none := ((sq ht2).trans (sq hq3)).none hp2
  have w2 : w ≠ p2 := fun z => by have := s9 _ _ hW; rw [z, hp2] at this; cases this
  have v2 : v ≠ p2 := fun z => by have := s9 _ _ hV; rw [z, hp2] at this; cases this
  have T2 : Tri X.K B1 (.tup [.ref p2, .ref n2, .ref d3]) p2 V2 := ⟨lp2, n2, d3, ns, ts3, R3, rfl, hp2', gV2, (s9.trans s1) _ _ hN, hD3, hR3⟩
  have h12b := s1 _ _ h12
  have T0 := (T0.sub s1).app (o := .prim (.lst [.tup [.ref w, .ref n2, .ref d], .tup [.ref v, .ref g1, .ref d2], .tup [.ref p2, .ref n2, .ref d3]])) h12b
  have T1 := (T1.sub s1).app (o := .prim (.lst [.tup [.ref w, .ref n2, .ref d], .tup [.ref v, .ref g1, .ref d2], .tup [.ref p2, .ref n2, .ref d3]])) h12b
  have T2 := T2.app (o := .prim (.lst [.tup [.ref w, .ref n2, .ref d], .tup [.ref v, .ref g1, .ref d2], .tup [.ref p2, .ref n2, .ref d3]])) h12b
  have s9 : TL.Sub A9 (updA B1 p12 (.prim (.lst [.tup [.ref w, .ref n2, .ref d], .tup [.ref v, .ref g1, .ref d2], .tup [.ref p2, .ref n2, .ref d3]]))) := Sub.upd (s9.trans s1) hp12
  have h12 : updA B1 p12 (.prim (.lst [.tup [.ref w, .ref n2, .ref d], .tup [.ref v, .ref g1, .ref d2], .tup [.ref p2, .ref n2, .ref d3]])) p12 = some (.prim (.lst [.tup [.ref w, .ref n2, .ref d], .tup [.ref v, .ref g1, .ref d2], .tup [.ref p2, .ref n2, .ref d3]])) := updA_same
  clear s1 sA h12b hD3 hp2' hq3 ht2
  show WPB X _ [some (.ref a), some (.ref t), some (.ref n2), some (.ref q2), some (.ref d), some (.ref w), some (.tup [.ref g1, .ref g2']), some (.ref v), some (pr (nl, n0)), some (.ref c), v10, none, some (.ref p12), none, none] (updA B1 p12 (.prim (.lst [.tup [.ref w, .ref n2, .ref d], .tup [.ref v, .ref g1, .ref d2], .tup [.ref p2, .ref n2, .ref d3]]))) _
  generalize updA B1 p12 (.prim (.lst [.tup [.ref w, .ref n2, .ref d], .tup [.ref v, .ref g1, .ref d2], .tup [.ref p2, .ref n2, .ref d3]])) = B2 at s9 h12 T0 T1 T2 ⊢
  -- with one tie less
  refine wpb_cons (wps_expr (wpe_append (Ev.wp (B.nm (i := 12) rfl rfl (.inl rfl)) ⟨p12, rfl, ⟨_, h12⟩, B.call (ET := NoX) LF.built (room.mono (by decide)) rfl LF.gbuilt.g LF.gbuilt.k pass0 (wpa_cons (Ev.wp (B.nm (i := 2) rfl rfl (.inl rfl)) (wpa_cons (EvN.wp (EvN.to (evn_slice (B.nm (i := 3) rfl rfl (.inl rfl)) .none (.some ev_neg) (.inl (s9 _ _ hT))) (show MO.lst (cutD (ts.map pr) none (some (-1))) = .lst (ts.dropLast.map pr) by rw [cutD_last, List.map_dropLast])) fun q3 hq3 => wpa_nil ⟨n2, q3, ns, ts.dropLast, rfl, g2 (s9 _ _ hN) hq3, updA_same, gW.to, (fun x hx => (hns.good x hx).2), (fun u hu => htl.2 u (List.dropLast_sublist ts |>.mem hu)), fun p3 lp3 V3 d4 R4 B3 gV3 hp3 sA hp3' hD4 hR4 => ⟨_, sA _ _ (g2 h12 hq3), (show 3 < sizeLine by decide), ?_⟩⟩))))⟩)))
  have s1 : TL.Sub B2 B3 := (sq hq3).trans sA
  have hp3 : B2 p3 = none := (sq hq3).none hp3
  have w3 : w ≠ p3 := fun z => by have := s9 _ _ hW; rw [z, hp3] at this; cases this
  have v3 : v ≠ p3 := fun z => by have := s9 _ _ hV; rw [z, hp3] at this; cases this
  have p23 : p2 ≠ p3 := fun z => by obtain ⟨_, _, _, _, _, _, _, h, _⟩ := id T2; rw [z, hp3] at h; cases h
  have T3 : Tri X.K B3 (.tup [.ref p3, .ref n2, .ref d4]) p3 V3 := ⟨lp3, n2, d4, ns, ts.dropLast, R4, rfl, hp3', gV3, (s9.trans s1) _ _ hN, hD4, hR4⟩
  have h12b := s1 _ _ h12
  have T0 := (T0.sub s1).app (o := .prim (.lst [.tup [.ref w, .ref n2, .ref d], .tup [.ref v, .ref g1, .ref d2], .tup [.ref p2, .ref n2, .ref d3], .tup [.ref p3, .ref n2, .ref d4]])) h12b
  have T1 := (T1.sub s1).app (o := .prim (.lst [.tup [.ref w, .ref n2, .ref d], .tup [.ref v, .ref g1, .ref d2], .tup [.ref p2, .ref n2, .ref d3], .tup [.ref p3, .ref n2, .ref d4]])) h12b
  have T2 := (T2.sub s1).app (o := .prim (.lst [.tup [.ref w, .ref n2, .ref d], .tup [.ref v, .ref g1, .ref d2], .tup [.ref p2, .ref n2, .ref d3], .tup [.ref p3, .ref n2, .ref d4]])) h12b
  have T3 := T3.app (o := .prim (.lst [.tup [.ref w, .ref n2, .ref d], .tup [.ref v, .ref g1, .ref d2], .tup [.ref p2, .ref n2, .ref d3], .tup [.ref p3, .ref n2, .ref d4]])) h12b
  have s9 : TL.Sub A9 (updA B3 p12 (.prim (.lst [.tup [.ref w, .ref n2, .ref d], .tup [.ref v, .ref g1, .ref d2], .tup [.ref p2, .ref n2, .ref d3], .tup [.ref p3, .ref n2, .ref d4]]))) := Sub.upd (s9.trans s1) hp12
  have h12 : updA B3 p12 (.prim (.lst [.tup [.ref w, .ref n2, .ref d], .tup [.ref v, .ref g1, .ref d2], .tup [.ref p2, .ref n2, .ref d3], .tup [.ref p3, .ref n2, .ref d4]])) p12 = some (.prim (.lst [.tup [.ref w, .ref n2, .ref d], .tup [.ref v, .ref g1, .ref d2], .tup [.ref p2, .ref n2, .ref d3], .tup [.ref p3, .ref n2, .ref d4]])) := updA_same
  clear s1 sA h12b hD4 hp3' hq3
  show WPB X _ [some (.ref a), some (.ref t), some (.ref n2), some (.ref q2), some (.ref d), some (.ref w), some (.tup [.ref g1, .ref g2']), some (.ref v), some (pr (nl, n0)), some (.ref c), v10, none, some (.ref p12), none, none] (updA B3 p12 (.prim (.lst [.tup [.ref w, .ref n2, .ref d], .tup [.ref v, .ref g1, .ref d2], .tup [.ref p2, .ref n2, .ref d3], .tup [.ref p3, .ref n2, .ref d4]]))) _
  generalize updA B3 p12 (.prim (.lst [.tup [.ref w, .ref n2, .ref d], .tup [.ref v, .ref g1, .ref d2], .tup [.ref p2, .ref n2, .ref d3], .tup [.ref p3, .ref n2, .ref d4]])) = B4 at s9 h12 T0 T1 T2 T3 ⊢
  -- in the reverse order
  have grv : goodTo ns.reverse := ⟨(List.pairwise_reverse.mpr (hns.nd.imp fun h => Ne.symm h)), by rw [List.length_reverse]; omega, fun x hx => (hns.good x (List.mem_reverse.mp hx)).1⟩
  refine wpb_cons (wps_expr (wpe_append (Ev.wp (B.nm (i := 12) rfl rfl (.inl rfl)) ⟨p12, rfl, ⟨_, h12⟩, B.call (ET := NoX) LF.built (room.mono (by decide)) rfl LF.gbuilt.g LF.gbuilt.k pass0 (wpa_cons (EvN.wp (EvN.to (evn_rev (B.nm (i := 2) rfl rfl (.inl rfl)) (.inl (s9 _ _ hN))) (show MO.lst (ns.map TL.D.str).reverse = .lst (ns.reverse.map .str) by rw [List.map_reverse])) fun n5 hn5 => wpa_cons (Ev.wp (B.nm (i := 9) rfl rfl (.inl rfl)) (wpa_nil ⟨n5, c, ns.reverse, cls, rfl, updA_same, g2 (s9 _ _ hc) hn5, grv, (fun x hx => (hns.good x (List.mem_reverse.mp hx)).2), (fun u hu => ⟨List.mem_reverse.mpr (incl u hu).1, List.mem_reverse.mpr (incl u hu).2⟩), fun p4 lp4 V4 d5 R5 B5 gV4 hp4 sA hp4' hD5 hR5 => ⟨_, sA _ _ (g2 h12 hn5), (show 4 < sizeLine by decide), ?_⟩⟩))))⟩)))
  have s1 : TL.Sub B4 B5 := (sq hn5).trans sA
  have hp4 : B4 p4 = none := (sq hn5).none hp4
  have w4 : w ≠ p4 := fun z => by have := s9 _ _ hW; rw [z, hp4] at this; cases this
  have v4 : v ≠ p4 := fun z => by have := s9 _ _ hV; rw [z, hp4] at this; cases this
  have p24 : p2 ≠ p4 := fun z => by obtain ⟨_, _, _, _, _, _, _, h, _⟩ := id T2; rw [z, hp4] at h; cases h
  have p34 : p3 ≠ p4 := fun z => by obtain ⟨_, _, _, _, _, _, _, h, _⟩ := id T3; rw [z, hp4] at h; cases h
  have T4 : Tri X.K B5 (.tup [.ref p4, .ref n5, .ref d5]) p4 V4 := ⟨lp4, n5, d5, ns.reverse, cls, R5, rfl, hp4', gV4, sA _ _ updA_same, hD5, hR5⟩
  have h12b := s1 _ _ h12
  have T0 := (T0.sub s1).app (o := .prim (.lst [.tup [.ref w, .ref n2, .ref d], .tup [.ref v, .ref g1, .ref d2], .tup [.ref p2, .ref n2, .ref d3], .tup [.ref p3, .ref n2, .ref d4], .tup [.ref p4, .ref n5, .ref d5]])) h12b
  have T1 := (T1.sub s1).app (o := .prim (.lst [.tup [.ref w, .ref n2, .ref d], .tup [.ref v, .ref g1, .ref d2], .tup [.ref p2, .ref n2, .ref d3], .tup [.ref p3, .ref n2, .ref d4], .tup [.ref p4, .ref n5, .ref d5]])) h12b
  have T2 := (T2.sub s1).app (o := .prim (.lst [.tup [.ref w, .ref n2, .ref d], .tup [.ref v, .ref g1, .ref d2], .tup [.ref p2, .ref n2, .ref d3], .tup [.ref p3, .ref n2, .ref d4], .tup [.ref p4, .ref n5, .ref d5]])) h12b
  have T3 := (T3.sub s1).app (o := .prim (.lst [.tup [.ref w, .ref n2, .ref d], .tup [.ref v, .ref g1, .ref d2], .tup [.ref p2, .ref n2, .ref d3], .tup [.ref p3, .ref n2, .ref d4], .tup [.ref p4, .ref n5, .ref d5]])) h12b
  have T4 := T4.app (o := .prim (.lst [.tup [.ref w, .ref n2, .ref d], .tup [.ref v, .ref g1, .ref d2], .tup [.ref p2, .ref n2, .ref d3], .tup [.ref p3, .ref n2, .ref d4], .tup [.ref p4, .ref n5, .ref d5]])) h12b
  have s9 : TL.Sub A9 (updA B5 p12 (.prim (.lst [.tup [.ref w, .ref n2, .ref d], .tup [.ref v, .ref g1, .ref d2], .tup [.ref p2, .ref n2, .ref d3], .tup [.ref p3, .ref n2, .ref d4], .tup [.ref p4, .ref n5, .ref d5]]))) := Sub.upd (s9.trans s1) hp12
  have h12 : updA B5 p12 (.prim (.lst [.tup [.ref w, .ref n2, .ref d], .tup [.ref v, .ref g1, .ref d2], .tup [.ref p2, .ref n2, .ref d3], .tup [.ref p3, .ref n2, .ref d4], .tup [.ref p4, .ref n5, .ref d5]])) p12 = some (.prim (.lst [.tup [.ref w, .ref n2, .ref d], .tup [.ref v, .ref g1, .ref d2], .tup [.ref p2, .ref n2, .ref d3], .tup [.ref p3, .ref n2, .ref d4], .tup [.ref p4, .ref n5, .ref d5]])) := updA_same
  clear s1 sA h12b hD5 hp4' hn5
  show WPB X _ [some (.ref a), some (.ref t), some (.ref n2), some (.ref q2), some (.ref d), some (.ref w), some (.tup [.ref g1, .ref g2']), some (.ref v), some (pr (nl, n0)), some (.ref c), v10, none, some (.ref p12), none, none] (updA B5 p12 (.prim (.lst [.tup [.ref w, .ref n2, .ref d], .tup [.ref v, .ref g1, .ref d2], .tup [.ref p2, .ref n2, .ref d3], .tup [.ref p3, .ref n2, .ref d4], .tup [.ref p4, .ref n5, .ref d5]]))) _
  generalize updA B5 p12 (.prim (.lst [.tup [.ref w, .ref n2, .ref d], .tup [.ref v, .ref g1, .ref d2], .tup [.ref p2, .ref n2, .ref d3], .tup [.ref p3, .ref n2, .ref d4], .tup [.ref p4, .ref n5, .ref d5]])) = C at s9 h12 T0 T1 T2 T3 T4 ⊢
  obtain ⟨L5, e5, all5, inj5, n5'⟩ : ∃ L5 : List (TL.D × Addr × WebD), ([.tup [.ref w, .ref n2, .ref d], .tup [.ref v, .ref g1, .ref d2], .tup [.ref p2, .ref n2, .ref d3], .tup [.ref p3, .ref n2, .ref d4], .tup [.ref p4, .ref n5, .ref d5]] : List TL.D) = L5.map (·.1) ∧ (∀ x ∈ L5, Tri X.K C x.1 x.2.1 x.2.2) ∧ (∀ x ∈ L5, ∀ y ∈ L5, x.2.1 = y.2.1 → x.2.2 = y.2.2) ∧ L5.length = 5 := by
    refine ⟨[(.tup [.ref w, .ref n2, .ref d], w, W), (.tup [.ref v, .ref g1, .ref d2], v, V), (.tup [.ref p2, .ref n2, .ref d3], p2, V2), (.tup [.ref p3, .ref n2, .ref d4], p3, V3), (.tup [.ref p4, .ref n5, .ref d5], p4, V4)], rfl, fun x hx => ?_, fun x hx y hy e => ?_, rfl⟩
    · simp only [List.mem_cons, List.not_mem_nil, or_false] at hx
      rcases hx with rfl | rfl | rfl | rfl | rfl
      · exact T0
      · exact T1
      · exact T2
      · exact T3
      · exact T4
    · simp only [List.mem_cons, List.not_mem_nil, or_false] at hx hy
      rcases hx with rfl | rfl | rfl | rfl | rfl <;> rcases hy with rfl | rfl | rfl | rfl | rfl <;> first | rfl | exact absurd e (by assumption) | exact absurd e.symm (by assumption)
  rw [e5] at h12
  refine wpb_cons (B.for_ (wpi_list (Ev.wp (B.nm (i := 12) rfl rfl (.inl rfl)) ⟨p12, _, rfl, h12, fun i δ' A' => A' = C ∧ ∃ v13 v14 : Option TL.D, δ' = [some (.ref a), some (.ref t), some (.ref n2), some (.ref q2), some (.ref d), some (.ref w), some (.tup [.ref g1, .ref g2']), some (.ref v), some (pr (nl, n0)), some (.ref c), v10, none, some (.ref p12), v13, v14], ⟨rfl, none, none, rfl⟩, fun _ _ _ _ ⟨eA, _⟩ => by rw [eA]; exact h12, fun i δ' A' hi ⟨eA, v13, v14, eδ⟩ => ?_, fun δ' A' ⟨eA, v13, v14, eδ⟩ => ?_⟩)))
  · have eA := eA.symm
    subst eA eδ
    have hi' : i < L5.length := by simpa using hi
    refine WPG.to (B.tn (i := 13) rfl (.inl rfl) ?_) (getD_map hi')
    have hm := List.getElem_mem hi'
    generalize L5[i] = x at hm
    obtain ⟨lpx, nx, dx, nsx, tsx, Rx, ex, hpx, gx, hnx, hdx, hrx⟩ := all5 x hm
    refine wpb_cons (B.for_ (wpi_list (Ev.wp (B.nm (i := 12) rfl rfl (.inl rfl)) ⟨p12, _, rfl, h12, fun j δ' A' => A' = C ∧ ∃ v14 : Option TL.D, δ' = [some (.ref a), some (.ref t), some (.ref n2), some (.ref q2), some (.ref d), some (.ref w), some (.tup [.ref g1, .ref g2']), some (.ref v), some (pr (nl, n0)), some (.ref c), v10, none, some (.ref p12), some (.tup [.ref x.2.1, .ref nx, .ref dx]), v14], ⟨rfl, v14, by rw [← ex]; rfl⟩, fun _ _ _ _ ⟨eA, _⟩ => by rw [eA]; exact h12, fun j δ' A' hj ⟨eA, v14, eδ⟩ => ?_, fun δ' A' ⟨eA, v14, eδ⟩ => ?_⟩)))
    · have eA := eA.symm
      subst eA eδ
      have hj' : j < L5.length := by simpa using hj
      refine WPG.to (B.tn (i := 14) rfl (.inl rfl) ?_) (getD_map hj')
      have hm2 := List.getElem_mem hj'
      generalize L5[j] = y at hm2
      obtain ⟨lpy, ny, dy, nsy, tsy, Ry, ey, hpy, gy, hny, hdy, hry⟩ := all5 y hm2
      have inj := inj5 x hm y hm2
      obtain ⟨y1, py, Vy⟩ := y
      have ey : y1 = .tup [.ref py, .ref ny, .ref dy] := ey
      subst ey
      obtain ⟨x1, px, Wx⟩ := x
      show WPB X _ [some (.ref a), some (.ref t), some (.ref n2), some (.ref q2), some (.ref d), some (.ref w), some (.tup [.ref g1, .ref g2']), some (.ref v), some (pr (nl, n0)), some (.ref c), v10, none, some (.ref p12), some (.tup [.ref px, .ref nx, .ref dx]), some (.tup [.ref py, .ref ny, .ref dy])] C _
      have ge := grows_eq gx gy hrx hry
      refine wpb_cons (wps_ifE (k := false) (et_not (k := true) (et_val ((B.ecall MF.truth (room.mono (by decide)) rfl MF.gtruth.g MF.gtruth.k (eva_cons (grows_ev (wl := lpx) (vl := lpy) (W := Wx) (V := Vy) WF.G MF.mgrows MF.grows (room.mono (by decide)) (ev_ix (B.nm (i := 13) rfl rfl (.inl rfl)) ev_int (ixv_tup (z := .ref px) rfl)) hpx (ev_ix (B.nm (i := 14) rfl rfl (.inl rfl)) ev_int (ixv_tup (z := .ref py) rfl)) hpy (fun z => (inj z).symm) gx.good) (eva_cons ((B.ecall LF.lgrows (room.mono (by decide)) rfl LF.glgrows.g LF.glgrows.k (eva_cons ((B.nm (i := 13) rfl rfl (.inl rfl))) (eva_cons ((B.nm (i := 14) rfl rfl (.inl rfl))) eva_nil)) (fun B1 k Q1 q1 => ⟨.ref px, .non, .ref py, .non, nx, dx, ny, dy, nsx, nsy, Rx, Ry, rfl, k _ _ hnx, k _ _ hny, hdx.sub k, hdy.sub k, q1⟩))) eva_nil)) (fun B1 k Q1 q1 => ⟨_, _, rfl, by rw [ge, decide_eq_true rfl]; exact q1⟩))))) (fun z => Bool.noConfusion z) fun _ => wpb_nil ?_)
      exact wpb_nil ⟨_, Vw.refl _, rfl, _, rfl⟩
    have eA := eA.symm
    subst eA eδ
    exact wpb_nil ⟨_, Vw.refl _, rfl, _, _, rfl⟩
  have eA := eA.symm
  subst eA eδ
  clear T0 T1 T2 T3 T4 all5 inj5 e5 h12
  have ha := ha.sub s9
  have hD := hD.sub s9
  have hN := s9 _ _ hN
  have hT := s9 _ _ hT
  have hW := s9 _ _ hW
  have h1 := s9 _ _ h1
  have h2 := s9 _ _ h2
  have hV := s9 _ _ hV
  clear s9
  refine wpb_cons (wps_ifE (k := false) (et_w (ew_or (k := false) (l := false) (et_not (k := true) (et_val (same_ev B.toBC MF.same MF.gsame (room.mono (by decide)) rfl (Ev.toWb (B.nm (i := 7) rfl rfl (.inl rfl)) hV gV) (Ev.toW (gr0 rfl) h1) (EvN.toW (mor rfl rfl hT h2)) htin tln))) fun _ => ew_or1 (et_not (k := true) (et_val (same_ev B.toBC MF.same MF.gsame (room.mono (by decide)) rfl (Ev.toWb (B.nm (i := 5) rfl rfl (.inl rfl)) hW gW) (Ev.toW (B.nm (i := 2) rfl rfl (.inl rfl)) hN) (Ev.toW (B.nm (i := 3) rfl rfl (.inl rfl)) hT) htl.2 (by omega)))))) (fun z => Bool.noConfusion z) fun _ => wpb_nil ?_)
  refine wpb_cons (wps_ifE (k := false) (et_w (ew_or (k := false) (l := false) (et_not (k := true) (et_val (ev_drop fun B1 k1 => (B.call (ET := NoX) LF.slow (room.mono (by decide)) rfl LF.gslow.g LF.gslow.k pass0 (EvA.wp (eva_cons ((B.nm (i := 5) rfl rfl (.inl rfl))) (eva_cons ((B.nm (i := 2) rfl rfl (.inl rfl))) (eva_cons ((B.nm (i := 3) rfl rfl (.inl rfl))) (eva_cons ((B.nm (i := 4) rfl rfl (.inl rfl))) eva_nil)))) ⟨w, wl, W, n2, q2, d, ns, ts, R, rfl, k1 _ _ hW, gW, htl.2, hns, by omega, k1 _ _ hN, k1 _ _ hT, hD.sub k1, hR, fun A' s => ⟨rfl, s⟩⟩))))) fun _ => ew_or1 (et_not (k := true) (et_val (ev_drop fun B1 k1 => (B.call (ET := NoX) LF.empty (room.mono (by decide)) rfl LF.gempty.g LF.gempty.k pass0 (EvA.wp (eva_cons ((B.nm (i := 5) rfl rfl (.inl rfl))) (eva_cons (ev_ix (B.nm (i := 2) rfl rfl (.inl rfl)) ev_int (ixv_list (.inl (k1 _ _ hN)) (z := .str n0) ix0)) eva_nil)) ⟨w, wl, W, ns, ts, n0, rfl, k1 _ _ hW, gW, n1, (hns.good n0 hn0).1, fun A' s => ⟨rfl, s⟩⟩))))))) (fun z => Bool.noConfusion z) fun _ => wpb_nil ?_)
  refine wpb_cons (wps_ret (B.call (ET := NoX) LF.apart (room.mono (by decide)) rfl LF.gapart.g LF.gapart.k pass0 (EvA.wp (eva_cons ((B.nm (i := 5) rfl rfl (.inl rfl))) (eva_cons ((B.nm (i := 7) rfl rfl (.inl rfl))) (eva_cons ((B.nm (i := 2) rfl rfl (.inl rfl))) (eva_cons ((B.nm (i := 3) rfl rfl (.inl rfl))) (eva_cons ((B.nm (i := 6) rfl rfl (.inl rfl))) eva_nil))))) ⟨w, wl, W, v, vl, V, n2, q2, g1, g2', ns, fs, ts, tl, rfl, hW, gW, hV, gV, wv, hns, htl.2, by omega, hN, hT, h1, h2, hg, fun A' => RV.mk (q _)⟩)))
end TL
/-! checks: classmethods, isinstance, what a class has not -/
namespace TL
open PySem PySem.Spec PyProof.Rows L2
def cmG (C m : Str) (K : PySem.W.Frag) : Addr := match PySem.W.recIn K (He.ma K (He.ga K C) m) "classmethod" with
  | some (.ref g :: _) => g
  | _ => 0
def ckCm (C m : Str) : Chk := fun K => PySem.W.readsIn K (He.ga K C) (.type "type") && (He.eqO (PySem.W.specialIn K (.ref (He.ga K C)) "__getattribute__") (some (some (.builtin "type.__getattribute__"))) &&
  ((match PySem.W.findCls K (.ref (He.ga K C)) (.type "type") m with
  | some (.get (.builtin b) (.ref q) .none (.ref c)) => decide (b = "classmethod.__get__") && (decide (q = He.ma K (He.ga K C) m) && decide (c = He.ga K C))
  | _ => false) && (match PySem.W.recIn K (He.ma K (He.ga K C) m) "classmethod" with
  | some (.ref g :: _) => PySem.W.fnIn K g
  | _ => false)))
theorem ckCm_ok {C m : Str} {K : PySem.W.Frag} (c : ckCm C m K = true) : ClX.CRead K (He.ga K C) (.type "type") ∧ ClX.CMet K (He.ga K C) (.type "type") m (He.ma K (He.ga K C) m) (cmG C m K) := by
  obtain ⟨c1, c⟩ := Bool.and_eq_true_iff.mp c
  obtain ⟨c2, c⟩ := Bool.and_eq_true_iff.mp c
  obtain ⟨c3, c4⟩ := Bool.and_eq_true_iff.mp c
  refine ⟨⟨c1, He.eqO_ok c2⟩, ?_⟩
  unfold cmG
  split at c4
  · rename_i g r e
    split at c3
    · rename_i b q cc e2
      obtain ⟨d1, d⟩ := Bool.and_eq_true_iff.mp c3
      obtain ⟨d2, d3⟩ := Bool.and_eq_true_iff.mp d
      rw [of_decide_eq_true d1, of_decide_eq_true d2, of_decide_eq_true d3] at e2
      exact ⟨e2, ⟨r, e⟩, c4⟩
    · cases c3
  · cases c4
def ckIsI (C : Str) : Chk := fun K => He.eqO (PySem.W.findIn K (.ref (He.ga K C)) "__class__") (some (some (.builtin "object.__class__"))) && (He.eqO (PySem.W.specialIn K (.builtin "object.__class__") "__get__") (some (some (.builtin "getset_descriptor.__get__"))) &&
  (decide (PySem.W.takesIn K (.builtin "object.__class__") = some true) && (decide (PySem.W.mroIn K (He.ga K C) (.type "object") = some true) && decide (PySem.W.kitOne K (.ref (He.ga K C)) (.ref (He.ga K C)) = some true))))
theorem ckIsI_ok {C : Str} {K : PySem.W.Frag} (c : ckIsI C K = true) : IsI K (He.ga K C) := by
  obtain ⟨c1, c⟩ := Bool.and_eq_true_iff.mp c
  obtain ⟨c2, c⟩ := Bool.and_eq_true_iff.mp c
  obtain ⟨c3, c⟩ := Bool.and_eq_true_iff.mp c
  obtain ⟨c4, c5⟩ := Bool.and_eq_true_iff.mp c
  exact ⟨He.eqO_ok c1, He.eqO_ok c2, of_decide_eq_true c3, of_decide_eq_true c4, of_decide_eq_true c5⟩
def ckByIs (C : Str) : Chk := fun K => decide (PySem.W.mroIn K (He.ga K C) (.type "object") = some true) && (He.eqO (PySem.W.findIn K (.ref (He.ga K C)) "__eq__") (some (some (.builtin "object.__eq__"))) && He.eqO (PySem.W.findIn K (.ref (He.ga K C)) "__ne__") (some (some (.builtin "object.__ne__"))))
theorem ckByIs_ok {C : Str} {K : PySem.W.Frag} (c : ckByIs C K = true) : ByIs K (He.ga K C) := by
  obtain ⟨c1, c⟩ := Bool.and_eq_true_iff.mp c
  obtain ⟨c2, c3⟩ := Bool.and_eq_true_iff.mp c
  exact ⟨of_decide_eq_true c1, He.eqO_ok c2, He.eqO_ok c3⟩
def ckNo (C m : Str) : Chk := fun K => He.eqO (PySem.W.findIn K (.ref (He.ga K C)) m) (some none)
def ckFirst (C : Str) : Chk := fun K => PySem.W.selfFirst K (He.ga K C)
end TL
/-! the head: facts by names -/
namespace TL
open PySem PySem.Spec PyProof.Rows L2

def fa0 : List He.Fa := [.glo "is_name", .glo "need_name", .glo "law", .glo "Web", .glo "_law_cell", .glo "_law_tape", .glo "_law_name", .glo "_law_names", .glo "_law_ties", .glo "_law_growth", .glo "_law_kept_ties", .glo "_law_reach", .glo "_law_truth", .glo "_law_pairs", .glo "_law_web", .glo "_law_grown"]
def fa1 : List He.Fa := [.glo "_law_strangers", .glo "_law_grows", .glo "_law_built", .glo "_law_same", .glo "_law_refused", .glo "_law_late", .glo "_law_many", .glo "_law_slow", .glo "_law_empty", .glo "_law_names_refused", .glo "_law_apart", .free "len", .free "int", .free "range", .free "list", .free "isinstance"]
def fa2 : List He.Fa := [.cls "Web", .noat "Web" "_people", .noat "Web" "_ties", .noat "Web" "_reach", .free "iter", .meth "Web" "welcome", .meth "Web" "need", .meth "Web" "__getitem__", .meth "Web" "__setitem__", .meth "Web" "__len__", .meth "Web" "__contains__", .meth "Web" "__iter__", .mkr "Web", .free "super", .glo "NoName", .glo "AlreadyThere"]
def fa3 : List He.Fa := [.glo "NoPerson", .glo "TakenBack", .glo "TooMany", .exc "TooMany", .free "all", .free "tuple", .str "LETTERS" letters, .meth "Web" "grown", .exm "NoName" "NoName" true, .exm "AlreadyThere" "NoName" false, .exm "AlreadyThere" "AlreadyThere" true, .exm "NoPerson" "NoName" false, .exm "NoPerson" "AlreadyThere" false, .exm "NoPerson" "NoPerson" true, .exm "TooMany" "TooMany" true, .meth "Web" "grows_into"]
def fa : List He.Fa := fa0 ++ fa1 ++ fa2 ++ fa3
def d0 : He.DefD := ⟨("is_name", none), "is_name", "is_name", defArgs s_is_name, defBody s_is_name, defScope s_is_name, [], []⟩
def d1 : He.DefD := ⟨("need_name", none), "need_name", "need_name", defArgs s_need_name, defBody s_need_name, defScope s_need_name, [], []⟩
def d2 : He.DefD := ⟨("Web", some "__init__"), "__init__", "Web.__init__", defArgs s_Web_init, defBody s_Web_init, defScope s_Web_init, [], []⟩
def d3 : He.DefD := ⟨("Web", some "welcome"), "welcome", "Web.welcome", defArgs s_Web_welcome, defBody s_Web_welcome, defScope s_Web_welcome, [], []⟩
def d4 : He.DefD := ⟨("Web", some "need"), "need", "Web.need", defArgs s_Web_need, defBody s_Web_need, defScope s_Web_need, [], []⟩
def d5 : He.DefD := ⟨("Web", some "__len__"), "__len__", "Web.__len__", defArgs s_Web_len, defBody s_Web_len, defScope s_Web_len, [], []⟩
def d6 : He.DefD := ⟨("Web", some "__iter__"), "__iter__", "Web.__iter__", defArgs s_Web_iter, defBody s_Web_iter, defScope s_Web_iter, [], []⟩
def d7 : He.DefD := ⟨("Web", some "__contains__"), "__contains__", "Web.__contains__", defArgs s_Web_contains, defBody s_Web_contains, defScope s_Web_contains, [], []⟩
def d8 : He.DefD := ⟨("Web", some "__getitem__"), "__getitem__", "Web.__getitem__", defArgs s_Web_getitem, defBody s_Web_getitem, defScope s_Web_getitem, [], []⟩
def d9 : He.DefD := ⟨("Web", some "__setitem__"), "__setitem__", "Web.__setitem__", defArgs s_Web_setitem, defBody s_Web_setitem, defScope s_Web_setitem, [], []⟩
def d10 : He.DefD := ⟨("Web", some "grown"), "grown", "Web.grown", defArgs s_Web_grown, defBody s_Web_grown, defScope s_Web_grown, [], [("people", .adr (kwA ("Web", some "grown") "people"))]⟩
def d11 : He.DefD := ⟨("Web", some "grows_into"), "grows_into", "Web.grows_into", defArgs s_Web_grows_into, defBody s_Web_grows_into, defScope s_Web_grows_into, [], []⟩
def d12 : He.DefD := ⟨("_law_cell", none), "_law_cell", "_law_cell", defArgs s_law_cell, defBody s_law_cell, defScope s_law_cell, [], []⟩
def d13 : He.DefD := ⟨("_law_tape", none), "_law_tape", "_law_tape", defArgs s_law_tape, defBody s_law_tape, defScope s_law_tape, [], []⟩
def d14 : He.DefD := ⟨("_law_name", none), "_law_name", "_law_name", defArgs s_law_name, defBody s_law_name, defScope s_law_name, [], []⟩
def d15 : He.DefD := ⟨("_law_names", none), "_law_names", "_law_names", defArgs s_law_names, defBody s_law_names, defScope s_law_names, [], []⟩
def d16 : He.DefD := ⟨("_law_ties", none), "_law_ties", "_law_ties", defArgs s_law_ties, defBody s_law_ties, defScope s_law_ties, [], []⟩
def d17 : He.DefD := ⟨("_law_growth", none), "_law_growth", "_law_growth", defArgs s_law_growth, defBody s_law_growth, defScope s_law_growth, [], []⟩
def d18 : He.DefD := ⟨("_law_kept_ties", none), "_law_kept_ties", "_law_kept_ties", defArgs s_law_kept_ties, defBody s_law_kept_ties, defScope s_law_kept_ties, [], []⟩
def d19 : He.DefD := ⟨("_law_reach", none), "_law_reach", "_law_reach", defArgs s_law_reach, defBody s_law_reach, defScope s_law_reach, [], []⟩
def d20 : He.DefD := ⟨("_law_truth", none), "_law_truth", "_law_truth", defArgs s_law_truth, defBody s_law_truth, defScope s_law_truth, [], []⟩
def d21 : He.DefD := ⟨("_law_pairs", none), "_law_pairs", "_law_pairs", defArgs s_law_pairs, defBody s_law_pairs, defScope s_law_pairs, [], []⟩
def d22 : He.DefD := ⟨("_law_web", none), "_law_web", "_law_web", defArgs s_law_web, defBody s_law_web, defScope s_law_web, [], []⟩
def d23 : He.DefD := ⟨("_law_grown", none), "_law_grown", "_law_grown", defArgs s_law_grown, defBody s_law_grown, defScope s_law_grown, [], []⟩
def d24 : He.DefD := ⟨("_law_strangers", none), "_law_strangers", "_law_strangers", defArgs s_law_strangers, defBody s_law_strangers, defScope s_law_strangers, [], []⟩
def d25 : He.DefD := ⟨("_law_grows", none), "_law_grows", "_law_grows", defArgs s_law_grows, defBody s_law_grows, defScope s_law_grows, [], []⟩
def d26 : He.DefD := ⟨("_law_built", none), "_law_built", "_law_built", defArgs s_law_built, defBody s_law_built, defScope s_law_built, [], []⟩
def d27 : He.DefD := ⟨("_law_same", none), "_law_same", "_law_same", defArgs s_law_same, defBody s_law_same, defScope s_law_same, [], []⟩
def d28 : He.DefD := ⟨("_law_refused", none), "_law_refused", "_law_refused", defArgs s_law_refused, defBody s_law_refused, defScope s_law_refused, [], []⟩
def d29 : He.DefD := ⟨("_law_late", none), "_law_late", "_law_late", defArgs s_law_late, defBody s_law_late, defScope s_law_late, [], []⟩
def d30 : He.DefD := ⟨("_law_many", none), "_law_many", "_law_many", defArgs s_law_many, defBody s_law_many, defScope s_law_many, [], []⟩
def d31 : He.DefD := ⟨("_law_slow", none), "_law_slow", "_law_slow", defArgs s_law_slow, defBody s_law_slow, defScope s_law_slow, [], []⟩
def d32 : He.DefD := ⟨("_law_empty", none), "_law_empty", "_law_empty", defArgs s_law_empty, defBody s_law_empty, defScope s_law_empty, [], []⟩
def d33 : He.DefD := ⟨("_law_names_refused", none), "_law_names_refused", "_law_names_refused", defArgs s_law_names_refused, defBody s_law_names_refused, defScope s_law_names_refused, [], []⟩
def d34 : He.DefD := ⟨("_law_apart", none), "_law_apart", "_law_apart", defArgs s_law_apart, defBody s_law_apart, defScope s_law_apart, [], []⟩
def d35 : He.DefD := ⟨("law", none), "law", "law", defArgs s_law, defBody s_law, defScope s_law, [], []⟩
def fn0 : List He.DefD := [d0, d1, d2, d3, d4, d5, d6, d7, d8, d9, d10, d11, d12, d13, d14, d15, d16, d17, d18, d19]
def fn1 : List He.DefD := [d20, d21, d22, d23, d24, d25, d26, d27, d28, d29, d30, d31, d32, d33, d34, d35]
def fn : List He.DefD := fn0 ++ fn1
def cks0 : List Chk := [ckSeq "Web", ckInt "Web" "MOST_PEOPLE" 24, ckFn "Web" "__getitem__", xB fl "NoName" ["text"] "NoName.__init__", xB fl "AlreadyThere" ["name"] "AlreadyThere.__init__", xB fl "NoPerson" ["name"] "NoPerson.__init__", xB fl "TakenBack" ["actor", "person"] "TakenBack.__init__", fun K => excB K (He.ga K "TooMany")]
def cks1 : List Chk := [fnSound "Web.ties" (prG "Web" "ties"), ckProp "Web" "ties", ckEm (kwA ("Web", some "grown") "people")]
def cks : List Chk := cks0 ++ cks1
def pxs0 : List (PySem.W.Frag → Addr) := [inA "NoName", inA "AlreadyThere", inA "NoPerson", inA "TakenBack", prG "Web" "ties"]
def pxs : List (PySem.W.Frag → Addr) := pxs0
def vxs0 : List He.FnW := [seenX "__init__" "NoName.__init__" s_NoName_init, seenX "__init__" "AlreadyThere.__init__" s_AlreadyThere_init, seenX "__init__" "NoPerson.__init__" s_NoPerson_init, seenX "__init__" "TakenBack.__init__" s_TakenBack_init, some ("ties", "Web.ties", defArgs s_Web_ties, .stmts (defBody s_Web_ties), defScope s_Web_ties, mainGlobals, [], builtinsNs)]
def vxs : List He.FnW := vxs0
abbrev hk : PySem.W.Hook := hookX 6 fa fn cks pxs vxs
def obs0 (s : PySem.W.SharedT) : ObX := obXG 6 fa fn cks pxs (HandSHeadRun.getT s)
theorem obs0_eq (s : PySem.W.SharedT) : obs0 s = hk.obs s.abs := obXG_eq (HandSHeadRun.getT_eq s)
def names0 : List PySem.Str := ["WebError", "TooMany", "NoName", "AlreadyThere", "NoPerson", "TakenBack", "LETTERS", "is_name", "need_name", "Web", "_law_cell", "_law_tape", "_law_name", "_law_names", "_law_ties", "_law_growth", "_law_kept_ties", "_law_reach", "_law_truth", "_law_pairs"]
def names1 : List PySem.Str := ["_law_web", "_law_grown", "_law_strangers", "_law_grows", "_law_built", "_law_same", "_law_refused", "_law_late", "_law_many", "_law_slow", "_law_empty", "_law_names_refused", "_law_apart"]
def names : List PySem.Str := names0 ++ names1
end TL
namespace TL
open PySem PySem.Spec PyProof.Rows L2
theorem run_a (w : World) (os : OsState) : (endR R 60000 w os).map (fun s => (HandSHeadRun.looksF R.prog (PySem.W.boot_heap w.params) s.abs, (seenR R (PySem.W.view R.prog [36]) names s))) = some (true, (PySem.W.openGood (PySem.W.view R.prog [36]) names)) := by kernel_rfl
end TL
namespace TL
open PySem PySem.Spec PyProof.Rows L2
theorem run_b (w : World) (os : OsState) : (endR R 60000 w os).map (fun s => (fa.all fun f => f.ok (kf 6 s), (fn.all fun d => d.ok (kf 6 s), (fn.map fun d => He.fnW (kf 6 s) d.at_, (cks.all fun c => c (kf 6 s), pxs.map fun p => fnSeen (kf 6 s) (p (kf 6 s))))))) = some (true, (true, ((fn.map He.DefD.val), (true, vxs)))) := by kernel_rfl
end TL
/-! the run of the top -/
namespace TL
open PySem PySem.Spec PyProof.Rows L2
theorem run (w : World) : HandSHeadRun.RunEq R (PySem.W.view R.prog [36]) hk obs0 60000 names w :=
  run_of (n := 6) (fun os => map1 (run_a w os)) (fun os => mapS (run_a w os)) (fun os => map1 (run_b w os)) (fun os => map1 (mapS (run_b w os))) (fun os => map1 (mapS (mapS (run_b w os)))) (fun os => map1 (mapS (mapS (mapS (run_b w os))))) (fun os => mapS (mapS (mapS (mapS (run_b w os)))))
abbrev Fact (K : PySem.W.Frag) : Prop := SaysX fa fn cks pxs vxs K
theorem fd_kp {K : PySem.W.Frag} {nm qual : Str} {params : Arguments} {body : List Stmt} {scope : Scope} {f : Addr} (h : ∃ fd, FunD K nm qual params body scope [] [] f fd) : PySem.W.keepIn K (.ref f) = true := let ⟨_, h⟩ := h; h.kp
/-- the function with one, two, three, four parameters -/
theorem bN1 {K : PySem.W.Frag} {nm qual x0 : Str} {params : Arguments} {body : List Stmt} {scope : Scope} {f : Addr} {fd : FuncData} (F : FunD K nm qual params body scope [] [] f fd) (h : ∀ (kV doc pm : Value) (an : Option Addr) (cdv ct : Value) (a : Value), bindArgs (PySem.W.fnOf nm qual params body scope .none kV doc pm an cdv ct) ⟨[a], []⟩ = pure ([x0].zip [a]) := by intros; rfl) : Binds K fd [x0] [] :=
  F.bindsN fun kV doc pm an cdv ct us hl => match us, hl with | [a], _ => h kV doc pm an cdv ct a
theorem bN2 {K : PySem.W.Frag} {nm qual x0 x1 : Str} {params : Arguments} {body : List Stmt} {scope : Scope} {f : Addr} {fd : FuncData} (F : FunD K nm qual params body scope [] [] f fd) (h : ∀ (kV doc pm : Value) (an : Option Addr) (cdv ct : Value) (a b : Value), bindArgs (PySem.W.fnOf nm qual params body scope .none kV doc pm an cdv ct) ⟨[a, b], []⟩ = pure ([x0, x1].zip [a, b]) := by intros; rfl) : Binds K fd [x0, x1] [] :=
  F.bindsN fun kV doc pm an cdv ct us hl => match us, hl with | [a, b], _ => h kV doc pm an cdv ct a b
theorem bN3 {K : PySem.W.Frag} {nm qual x0 x1 x2 : Str} {params : Arguments} {body : List Stmt} {scope : Scope} {f : Addr} {fd : FuncData} (F : FunD K nm qual params body scope [] [] f fd) (h : ∀ (kV doc pm : Value) (an : Option Addr) (cdv ct : Value) (a b c : Value), bindArgs (PySem.W.fnOf nm qual params body scope .none kV doc pm an cdv ct) ⟨[a, b, c], []⟩ = pure ([x0, x1, x2].zip [a, b, c]) := by intros; rfl) : Binds K fd [x0, x1, x2] [] :=
  F.bindsN fun kV doc pm an cdv ct us hl => match us, hl with | [a, b, c], _ => h kV doc pm an cdv ct a b c
theorem bN4 {K : PySem.W.Frag} {nm qual x0 x1 x2 x3 : Str} {params : Arguments} {body : List Stmt} {scope : Scope} {f : Addr} {fd : FuncData} (F : FunD K nm qual params body scope [] [] f fd) (h : ∀ (kV doc pm : Value) (an : Option Addr) (cdv ct : Value) (a b c d : Value), bindArgs (PySem.W.fnOf nm qual params body scope .none kV doc pm an cdv ct) ⟨[a, b, c, d], []⟩ = pure ([x0, x1, x2, x3].zip [a, b, c, d]) := by intros; rfl) : Binds K fd [x0, x1, x2, x3] [] :=
  F.bindsN fun kV doc pm an cdv ct us hl => match us, hl with | [a, b, c, d], _ => h kV doc pm an cdv ct a b c d
theorem bN5 {K : PySem.W.Frag} {nm qual x0 x1 x2 x3 x4 : Str} {params : Arguments} {body : List Stmt} {scope : Scope} {f : Addr} {fd : FuncData} (F : FunD K nm qual params body scope [] [] f fd) (h : ∀ (kV doc pm : Value) (an : Option Addr) (cdv ct : Value) (a b c d e : Value), bindArgs (PySem.W.fnOf nm qual params body scope .none kV doc pm an cdv ct) ⟨[a, b, c, d, e], []⟩ = pure ([x0, x1, x2, x3, x4].zip [a, b, c, d, e]) := by intros; rfl) : Binds K fd [x0, x1, x2, x3, x4] [] :=
  F.bindsN fun kV doc pm an cdv ct us hl => match us, hl with | [a, b, c, d, e], _ => h kV doc pm an cdv ct a b c d e
theorem star1 {K : PySem.W.Frag} {nm qual x v : Str} {params : Arguments} {body : List Stmt} {scope : Scope} {f : Addr} {fd : FuncData} (F : FunD K nm qual params body scope [] [] f fd)
    (h0 : ∀ (kV doc pm : Value) (an : Option Addr) (cdv ct : Value) (a : Value), bindArgs (PySem.W.fnOf nm qual params body scope .none kV doc pm an cdv ct) ⟨[a], []⟩ = (newTuple [] >>= fun t => pure [(x, a), (v, t)]) := by intros; rfl)
    (h1 : ∀ (kV doc pm : Value) (an : Option Addr) (cdv ct : Value) (a r : Value) (rs : List Value), bindArgs (PySem.W.fnOf nm qual params body scope .none kV doc pm an cdv ct) ⟨a :: r :: rs, []⟩ = (newTuple (r :: rs) >>= fun t => pure [(x, a), (v, t)]) := by intros; rfl) :
    ∀ us rest : List Value, us.length = ([x] : List Str).length → bindArgs fd ⟨us ++ rest, []⟩ = (newTuple rest >>= fun t => pure (([x] : List Str).zip us ++ [(v, t)])) := by
  obtain ⟨oc, od, dV, kV, doc, pm, an, cdv, ct, osl, rfl, lk, hcd, hD, hK⟩ := F.ex
  rcases hD with ⟨_, rfl⟩ | ⟨e, _⟩
  · exact StX.bind_star1 (B := fun vs => bindArgs _ ⟨vs, []⟩) (h0 kV doc pm an cdv ct) (h1 kV doc pm an cdv ct)
  · exact absurd rfl e
theorem sc_witer : FnScope N_Web_iter ["self"] (defScope s_Web_iter) := ⟨rfl, rfl, rfl, by decide +kernel, rfl, by decide +kernel, by decide +kernel⟩
section
variable {w : World} {K : PySem.W.Frag} {h : Heap} {mg : Str → Option Value} {base : Heap}
abbrev P : Program := R.prog
theorem fact_free (X : K.In h) (Gm : h.Ns mainGlobals mg) (c : Fact K) : Free mg := ⟨He.free_ok X Gm (c.d.fact 27 rfl), He.free_ok X Gm (c.d.fact 28 rfl), He.free_ok X Gm (c.d.fact 29 rfl), He.free_ok X Gm (c.d.fact 30 rfl), He.free_ok X Gm (c.d.fact 31 rfl)⟩
theorem fact_web (X : K.In h) (Gm : h.Ns mainGlobals mg) (c : Fact K) : WebK K mg where
  cls := He.cls_ok (c.d.fact 32 rfl)
  nP := He.noat_ok (c.d.fact 33 rfl)
  nT := He.noat_ok (c.d.fact 34 rfl)
  nR := He.noat_ok (c.d.fact 35 rfl)
  seq := (c.chk 0 rfl)
  gW := He.glo_ok X Gm (c.d.fact 3 rfl)
  gis := He.glo_ok X Gm (c.d.fact 0 rfl)
  gnn := He.glo_ok X Gm (c.d.fact 1 rfl)
  kis := (fd_kp (c.d.def_ 0 rfl))
  knn := (fd_kp (c.d.def_ 1 rfl))
  flen := He.free_ok X Gm (c.d.fact 27 rfl)
  flist := He.free_ok X Gm (c.d.fact 30 rfl)
  fiter := He.free_ok X Gm (c.d.fact 36 rfl)
  mwel := He.meth_ok (c.d.fact 37 rfl)
  mneed := He.meth_ok (c.d.fact 38 rfl)
  most := ckInt_ok (C := "Web") (c.chk 1 rfl)
theorem fact_webm (c : Fact K) : WebM K where
  get := He.meth_ok (c.d.fact 39 rfl)
  getf := (c.chk 2 rfl)
  set := He.meth_ok (c.d.fact 40 rfl)
  len := He.meth_ok (c.d.fact 41 rfl)
  has := He.meth_ok (c.d.fact 42 rfl)
  iter := He.meth_ok (c.d.fact 43 rfl)
  make := He.mkr_ok (c.d.fact 44 rfl)
theorem fact_webx (X : K.In h) (Gm : h.Ns mainGlobals mg) (c : Fact K) : WebX P w K mg base where
  nn := xc_NoName rfl (by kernel_rfl) (He.free_ok X Gm (c.d.fact 45 rfl)) (He.glo_ok X Gm (c.d.fact 46 rfl)) (c.chk 3 rfl) (c.fnx 0 rfl rfl)
  at_ := xc_AlreadyThere rfl (by kernel_rfl) (He.free_ok X Gm (c.d.fact 45 rfl)) (He.glo_ok X Gm (c.d.fact 47 rfl)) (c.chk 4 rfl) (c.fnx 1 rfl rfl)
  np := xc_NoPerson rfl (by kernel_rfl) (He.free_ok X Gm (c.d.fact 45 rfl)) (He.glo_ok X Gm (c.d.fact 48 rfl)) (c.chk 5 rfl) (c.fnx 2 rfl rfl)
  tb := xc_TakenBack rfl (by kernel_rfl) (He.free_ok X Gm (c.d.fact 45 rfl)) (He.glo_ok X Gm (c.d.fact 49 rfl)) (c.chk 6 rfl) (c.fnx 3 rfl rfl)
  tm := xc0_ok (He.glo_ok X Gm (c.d.fact 50 rfl)) (c.d.fact 51 rfl) (c.chk 7 rfl)
theorem fact_law (X : K.In h) (Gm : h.Ns mainGlobals mg) (c : Fact K) : LawF P w K mg base := by
  have fr := fact_free X Gm c
  have fall : mg "all" = none := He.free_ok X Gm (c.d.fact 52 rfl)
  have ftup : mg "tuple" = none := He.free_ok X Gm (c.d.fact 53 rfl)
  have G := fact_web X Gm c
  have M := fact_webm c
  have XX : WebX P w K mg base := fact_webx X Gm c
  obtain ⟨fd_is, D_is⟩ := c.d.def_ 0 rfl
  have F_is : FnT P w K mg base 1 (He.ga K "is_name") tpIsName := fn_T D_is sc_is_name (bN1 D_is) (fun ds A Q E z => by obtain ⟨_, e, _⟩ := z; subst e; rfl) (body_is_name (He.free_ok X Gm (c.d.fact 52 rfl)) fr.len (He.str_ok X Gm (c.d.fact 54 rfl)))
  obtain ⟨fd_nn, D_nn⟩ := c.d.def_ 1 rfl
  have F_nn : FnT P w K mg base 3 (He.ga K "need_name") (tpNeedName K) := fn_T D_nn sc_need_name (bN1 D_nn) (fun ds A Q E z => by obtain ⟨_, e, _⟩ := z; subst e; rfl) (body_need_name G XX F_is)
  obtain ⟨fd_wel, D_wel⟩ := c.d.def_ 3 rfl
  have F_wel : FnT P w K mg base 4 (wm K "welcome") (tpWelcome K) := fn_T D_wel sc_welcome (bN2 D_wel) (fun ds A Q E z => by obtain ⟨_, _, _, _, e, _⟩ := z; subst e; rfl) (body_welcome G XX F_nn)
  obtain ⟨fd_need, D_need⟩ := c.d.def_ 4 rfl
  have F_need : FnT P w K mg base 3 (wm K "need") (tpNeedS K) := fn_TS D_need sc_need (star1 D_need) (body_need G XX)
  obtain ⟨fd_ini, D_ini⟩ := c.d.def_ 2 rfl
  have F_ini : FnT P w K mg base 5 (wm K "__init__") (tpInitS K) := fn_TS D_ini sc_winit (star1 D_ini) (body_winit G F_wel)
  obtain ⟨fd_get, D_get⟩ := c.d.def_ 8 rfl
  have F_get : FnT P w K mg base 4 (wm K "__getitem__") (tpGet K) := fn_T D_get sc_wget (bN2 D_get) (fun ds A Q E z => by obtain ⟨_, _, _, _, _, e, _⟩ := z; subst e; rfl) (body_wget G F_need)
  obtain ⟨fd_set, D_set⟩ := c.d.def_ 9 rfl
  have F_set : FnT P w K mg base 4 (wm K "__setitem__") (tpSet K) := fn_T D_set sc_wset (bN3 D_set) (fun ds A Q E z => by obtain ⟨_, _, _, _, _, _, e, _⟩ := z; subst e; rfl) (body_wset G XX F_need)
  obtain ⟨fd_len, D_len⟩ := c.d.def_ 5 rfl
  have F_len : FnT P w K mg base 1 (wm K "__len__") (tpWLen K) := fn_T D_len sc_wlen (bN1 D_len) (fun ds A Q E z => by obtain ⟨_, _, _, e, _⟩ := z; subst e; rfl) (body_wlen G)
  obtain ⟨fd_has, D_has⟩ := c.d.def_ 7 rfl
  have F_has : FnT P w K mg base 1 (wm K "__contains__") (tpWHas K) := fn_T D_has sc_whas (bN2 D_has) (fun ds A Q E z => by obtain ⟨_, _, _, _, e, _⟩ := z; subst e; rfl) (body_whas G)
  obtain ⟨fd_it, D_it⟩ := c.d.def_ 6 rfl
  have F_it : ItFn P w K mg base 1 (wm K "__iter__") (cW K) "_people" := fn_it D_it sc_witer (bN1 D_it) rfl rfl rfl G.fiter G.cls G.nP
  obtain ⟨fd_ties, D_ties⟩ := funD_seen (p := prG "Web" "ties") (c.fnx 4 rfl rfl) (c.chk 8 rfl)
  have F_ties : FnT P w K mg base 1 (prG "Web" "ties" K) (tpTies K) := fn_T D_ties sc_wties (bN1 D_ties) (fun ds A Q E z => by obtain ⟨_, _, _, e, _⟩ := z; subst e; rfl) (body_wties G)
  have FF : ∀ X : Cx, X.prog = P → X.w = w → X.K = K → X.mg = mg → X.base = base → Room 8 X.A → WebFn X := fun X e1 e2 e3 e4 e5 room => by
    subst e2 e3 e4 e5
    exact ⟨G, M, by rw [e1]; exact F_it, by rw [e1]; exact F_len, by rw [e1]; exact F_has, by rw [e1]; exact F_get, by rw [e1]; exact F_set, by rw [e1]; exact F_wel, by rw [e1]; exact F_ini, ⟨_, _, ckProp_ok (c.chk 9 rfl), by rw [e1]; exact F_ties⟩, room⟩
  have F_hasO : FnT P w K mg base 1 (wm K "__contains__") (tpHasO K) := fn_T D_has sc_whas (bN2 D_has) (fun ds A Q E z => by obtain ⟨_, _, _, e, _⟩ := z; subst e; rfl) (body_whasO G)
  have F_needO : FnT P w K mg base 3 (wm K "need") (tpNeedOS K) := fn_TS D_need sc_need (star1 D_need) (body_needO G)
  have F_getO : FnT P w K mg base 4 (wm K "__getitem__") (tpGetO K) := fn_T D_get sc_wget (bN2 D_get) (fun ds A Q E z => by obtain ⟨_, _, _, _, e, _⟩ := z; subst e; rfl) (body_wgetO G F_needO)
  obtain ⟨fd_grown, D_grown⟩ := c.d.def_ 10 rfl
  have F_grown := fn_TSD (T := kwA ("Web", some "grown") "people" K) D_grown sc_wgrown (ckEm_ok (c.chk 10 rfl)) (fun D doc pm an cdv ct a v rest => by cases rest <;> exact ⟨_, _, _, _, _, _, rfl, rfl, rfl⟩) (body_wgrown G M F_ini F_wel F_set)
  have F_grownK : FnTK P w K mg base 7 (wm K "grown") ["people"] (tpGrownK K) := fn_TSK D_grown sc_wgrown (fun kV doc pm an cdv ct a v rest => by cases rest <;> rfl) (body_wgrown G M F_ini F_wel F_set)
  have F_itH : ItFnH P w K mg base 1 (wm K "__iter__") (cW K) "_people" := fn_itH D_it sc_witer (bN1 D_it) rfl rfl rfl G.fiter G.cls G.nP
  have F_lenH : LenFnH P w K mg base 1 (wm K "__len__") (cW K) "_people" := fn_lenH D_len sc_wlen (bN1 D_len) rfl rfl rfl fr.len G.cls G.nP
  obtain ⟨fd_grows, D_grows⟩ := c.d.def_ 11 rfl
  have F_grows : FnT P w K mg base 7 (wm K "grows_into") (tpGrows K) := fn_T D_grows sc_wgrows (bN2 D_grows) (fun ds A Q E z => by obtain ⟨_, _, _, _, _, _, e, _⟩ := z; subst e; rfl) (body_wgrows G M fall (FnT.or F_has F_hasO) (FnT.or F_get F_getO))
  obtain ⟨fd_cell, D_cell⟩ := c.d.def_ 12 rfl
  have F_cell : FnT P w K mg base 1 (He.ga K "_law_cell") (tpCell K) := fn_T D_cell sc_cell (bN2 D_cell) (fun ds A Q E z => by obtain ⟨_, _, _, e, _⟩ := z; subst e; rfl) (body_cell fr)
  obtain ⟨fd_tape, D_tape⟩ := c.d.def_ 13 rfl
  have F_tape : FnT P w K mg base 2 (He.ga K "_law_tape") (tpTape K) := fn_T D_tape sc_tape (bN3 D_tape) (fun ds A Q E z => by obtain ⟨_, _, _, _, e, _⟩ := z; subst e; rfl) (body_tape fr (⟨He.glo_ok X Gm (c.d.fact 4 rfl), (fd_kp (c.d.def_ 12 rfl))⟩ : GF K mg "_law_cell") F_cell)
  obtain ⟨fd_nameF, D_nameF⟩ := c.d.def_ 14 rfl
  have F_nameF : FnT P w K mg base 2 (He.ga K "_law_name") tpNameF := fn_T D_nameF sc_name (bN1 D_nameF) (fun ds A Q E z => by obtain ⟨_, e, _⟩ := z; subst e; rfl) (body_nameF fr)
  have F_name2 : FnT P w K mg base 2 (He.ga K "_law_name") tpName := FnT.weak F_nameF fun ds A Q E ⟨n, e, hn, q⟩ => ⟨n, e, hn, q _ (nameOf_ok n).1 (nameOf_ok n).2⟩
  obtain ⟨fd_names, D_names⟩ := c.d.def_ 15 rfl
  have F_names : FnT P w K mg base 3 (He.ga K "_law_names") tpNames := fn_T D_names sc_names (bN1 D_names) (fun ds A Q E z => by obtain ⟨_, _, e, _⟩ := z; subst e; rfl) (body_names fr (⟨He.glo_ok X Gm (c.d.fact 6 rfl), (fd_kp (c.d.def_ 14 rfl))⟩ : GF K mg "_law_name") F_name2)
  obtain ⟨fd_lties, D_lties⟩ := c.d.def_ 16 rfl
  have F_lties : FnT P w K mg base 2 (He.ga K "_law_ties") tpLTies := fn_T D_lties sc_lties (bN2 D_lties) (fun ds A Q E z => by obtain ⟨_, _, _, _, e, _⟩ := z; subst e; rfl) (body_lties fr)
  obtain ⟨fd_reach, D_reach⟩ := c.d.def_ 19 rfl
  have F_reach : FnT P w K mg base 2 (He.ga K "_law_reach") tpReach := fn_T D_reach sc_reach (bN2 D_reach) (fun ds A Q E z => by obtain ⟨_, _, _, _, e, _⟩ := z; subst e; rfl) (body_reach fr)
  obtain ⟨fd_truth, D_truth⟩ := c.d.def_ 20 rfl
  have F_truth : FnT P w K mg base 1 (He.ga K "_law_truth") tpTruth := fn_T D_truth sc_truth (bN2 D_truth) (fun ds A Q E z => by obtain ⟨_, _, e, _⟩ := z; subst e; rfl) (body_truth)
  obtain ⟨fd_lweb, D_lweb⟩ := c.d.def_ 22 rfl
  have F_lweb : FnT P w K mg base 7 (He.ga K "_law_web") (tpLWeb K) := fn_T D_lweb sc_lweb (bN2 D_lweb) (fun ds A Q E z => by obtain ⟨_, _, _, _, e, _⟩ := z; subst e; rfl) (body_lweb G M F_ini F_wel F_set)
  obtain ⟨fd_lstr, D_lstr⟩ := c.d.def_ 24 rfl
  have F_lstr : FnT P w K mg base 2 (He.ga K "_law_strangers") (tpLStr K) := fn_T D_lstr sc_lstr (bN1 D_lstr) (fun ds A Q E z => by obtain ⟨_, _, e, _⟩ := z; subst e; rfl) (body_lstr (k := 1))
  obtain ⟨fd_growth, D_growth⟩ := c.d.def_ 17 rfl
  have F_growth : FnT P w K mg base 3 (He.ga K "_law_growth") (tpGrowth K) := fn_T D_growth sc_growth (bN3 D_growth) (fun ds A Q E z => by obtain ⟨_, _, _, _, _, e, _⟩ := z; subst e; rfl) (body_growth fr (⟨He.glo_ok X Gm (c.d.fact 5 rfl), (fd_kp (c.d.def_ 13 rfl))⟩ : GF K mg "_law_tape") F_tape (⟨He.glo_ok X Gm (c.d.fact 6 rfl), (fd_kp (c.d.def_ 14 rfl))⟩ : GF K mg "_law_name") F_nameF)
  have GR : GrF P w K mg base := ⟨fr, ftup, G, He.meth_ok (c.d.fact 55 rfl), F_grownK⟩
  have ER : ExG K := ⟨He.exm_ok (c.d.fact 56 rfl), He.exm_ok (c.d.fact 57 rfl), He.exm_ok (c.d.fact 58 rfl), He.exm_ok (c.d.fact 59 rfl), He.exm_ok (c.d.fact 60 rfl), He.exm_ok (c.d.fact 61 rfl), He.exm_ok (c.d.fact 62 rfl)⟩
  obtain ⟨fd_reachN, D_reachN⟩ := c.d.def_ 19 rfl
  have F_reachN : FnT P w K mg base 2 (He.ga K "_law_reach") tpReachN := fn_T D_reachN sc_reach (bN2 D_reachN) (fun ds A Q E z => by obtain ⟨_, _, _, _, e, _⟩ := z; subst e; rfl) (body_reachN fr)
  obtain ⟨fd_pairs, D_pairs⟩ := c.d.def_ 21 rfl
  have F_pairs : FnT P w K mg base 6 (He.ga K "_law_pairs") (tpPairs K) := fn_T D_pairs sc_pairs (bN3 D_pairs) (fun ds A Q E z => by obtain ⟨_, _, _, _, _, _, _, e, _⟩ := z; subst e; rfl) (body_pairs M (⟨He.glo_ok X Gm (c.d.fact 12 rfl), (fd_kp (c.d.def_ 20 rfl))⟩ : GF K mg "_law_truth") F_truth F_get)
  obtain ⟨fd_kties, D_kties⟩ := c.d.def_ 18 rfl
  have F_kties : FnT P w K mg base 2 (He.ga K "_law_kept_ties") tpKept := fn_T D_kties sc_kept (bN1 D_kties) (fun ds A Q E z => by obtain ⟨_, _, e, _⟩ := z; subst e; rfl) (body_kept)
  obtain ⟨fd_same, D_same⟩ := c.d.def_ 27 rfl
  have F_same : FnT P w K mg base 9 (He.ga K "_law_same") (tpSame K) := fn_T D_same sc_same (bN3 D_same) (fun ds A Q E z => by obtain ⟨_, _, _, _, _, _, _, e, _⟩ := z; subst e; rfl) (body_same fr FF (⟨He.glo_ok X Gm (c.d.fact 10 rfl), (fd_kp (c.d.def_ 18 rfl))⟩ : GF K mg "_law_kept_ties") F_kties (⟨He.glo_ok X Gm (c.d.fact 13 rfl), (fd_kp (c.d.def_ 21 rfl))⟩ : GF K mg "_law_pairs") F_pairs (⟨He.glo_ok X Gm (c.d.fact 11 rfl), (fd_kp (c.d.def_ 19 rfl))⟩ : GF K mg "_law_reach") F_reach)
  obtain ⟨fd_lgrows, D_lgrows⟩ := c.d.def_ 25 rfl
  have F_lgrows : FnT P w K mg base 2 (He.ga K "_law_grows") tpLGrows := fn_T D_lgrows sc_lgrows (bN2 D_lgrows) (fun ds A Q E z => by obtain ⟨_, _, _, _, _, _, _, _, _, _, _, _, e, _⟩ := z; subst e; rfl) (body_lgrows)
  obtain ⟨fd_built, D_built⟩ := c.d.def_ 26 rfl
  have F_built : FnT P w K mg base 8 (He.ga K "_law_built") (tpBuilt K) := fn_T D_built sc_built (bN2 D_built) (fun ds A Q E z => by obtain ⟨_, _, _, _, e, _⟩ := z; subst e; rfl) (body_built (⟨He.glo_ok X Gm (c.d.fact 14 rfl), (fd_kp (c.d.def_ 22 rfl))⟩ : GF K mg "_law_web") F_lweb (⟨He.glo_ok X Gm (c.d.fact 11 rfl), (fd_kp (c.d.def_ 19 rfl))⟩ : GF K mg "_law_reach") F_reach)
  obtain ⟨fd_lgrown, D_lgrown⟩ := c.d.def_ 23 rfl
  have F_lgrown : FnT P w K mg base 8 (He.ga K "_law_grown") (tpLGrown K) := fn_T D_lgrown sc_lgrown (bN3 D_lgrown) (fun ds A Q E z => by obtain ⟨_, _, _, _, _, _, _, _, _, e, _⟩ := z; subst e; rfl) (body_lgrown GR)
  obtain ⟨fd_ref3, D_ref3⟩ := c.d.def_ 28 rfl
  have F_ref3 : FnT P w K mg base 8 (He.ga K "_law_refused") (tpRef3 K) := fn_T0 D_ref3 sc_ref3 (bN3 D_ref3) (fun ds A Q E z => by obtain ⟨_, _, _, _, _, _, _, e, _⟩ := z; subst e; rfl) (body_ref3 XX ER GR)
  obtain ⟨fd_late, D_late⟩ := c.d.def_ 29 rfl
  have F_late : FnT P w K mg base 8 (He.ga K "_law_late") (tpLate K) := fn_T0 D_late sc_late (bN2 D_late) (fun ds A Q E z => by obtain ⟨_, _, _, _, _, _, _, _, e, _⟩ := z; subst e; rfl) (body_late XX ER GR M F_itH F_lenH)
  have MM : M3F P w K mg base := ⟨fr, fall, FF, GR, F_lweb, F_late, F_truth, F_same, He.meth_ok (c.d.fact 63 rfl), F_grows, F_grown, (⟨He.glo_ok X Gm (c.d.fact 14 rfl), (fd_kp (c.d.def_ 22 rfl))⟩ : GF K mg "_law_web"), (⟨He.glo_ok X Gm (c.d.fact 21 rfl), (fd_kp (c.d.def_ 29 rfl))⟩ : GF K mg "_law_late"), (⟨He.glo_ok X Gm (c.d.fact 12 rfl), (fd_kp (c.d.def_ 20 rfl))⟩ : GF K mg "_law_truth"), (⟨He.glo_ok X Gm (c.d.fact 19 rfl), (fd_kp (c.d.def_ 27 rfl))⟩ : GF K mg "_law_same")⟩
  obtain ⟨fd_many3, D_many3⟩ := c.d.def_ 30 rfl
  have F_many3 : FnT P w K mg base 9 (He.ga K "_law_many") (tpMany3 K) := fn_T D_many3 sc_many3 (bN2 D_many3) (fun ds A Q E z => by obtain ⟨_, _, _, _, e, _⟩ := z; subst e; rfl) (body_many3 MM)
  obtain ⟨fd_slow, D_slow⟩ := c.d.def_ 31 rfl
  have F_slow : FnT P w K mg base 10 (He.ga K "_law_slow") (tpSlow K) := fn_T D_slow sc_slow (bN4 D_slow) (fun ds A Q E z => by obtain ⟨_, _, _, _, _, _, _, _, _, e, _⟩ := z; subst e; rfl) (body_slow MM)
  obtain ⟨fd_empty, D_empty⟩ := c.d.def_ 32 rfl
  have F_empty : FnT P w K mg base 10 (He.ga K "_law_empty") (tpEmpty K) := fn_T D_empty sc_empty (bN2 D_empty) (fun ds A Q E z => by obtain ⟨_, _, _, _, _, _, e, _⟩ := z; subst e; rfl) (body_empty MM)
  obtain ⟨fd_nref, D_nref⟩ := c.d.def_ 33 rfl
  have F_nref : FnT P w K mg base 9 (He.ga K "_law_names_refused") (tpNRef K) := fn_T D_nref sc_nref (bN3 D_nref) (fun ds A Q E z => by obtain ⟨_, _, _, _, _, _, _, _, _, _, e, _⟩ := z; subst e; rfl) (body_nref (⟨He.glo_ok X Gm (c.d.fact 20 rfl), (fd_kp (c.d.def_ 28 rfl))⟩ : GF K mg "_law_refused") F_ref3)
  have AP : ApF P w K mg base := ⟨MM, F_nref, F_many3, F_lstr, (⟨He.glo_ok X Gm (c.d.fact 25 rfl), (fd_kp (c.d.def_ 33 rfl))⟩ : GF K mg "_law_names_refused"), (⟨He.glo_ok X Gm (c.d.fact 22 rfl), (fd_kp (c.d.def_ 30 rfl))⟩ : GF K mg "_law_many"), (⟨He.glo_ok X Gm (c.d.fact 16 rfl), (fd_kp (c.d.def_ 24 rfl))⟩ : GF K mg "_law_strangers")⟩
  obtain ⟨fd_apart, D_apart⟩ := c.d.def_ 34 rfl
  have F_apart : FnT P w K mg base 10 (He.ga K "_law_apart") (tpApart K) := fn_T D_apart sc_apart (bN5 D_apart) (fun ds A Q E z => by obtain ⟨_, _, _, _, _, _, _, _, _, _, _, _, _, _, e, _⟩ := z; subst e; rfl) (body_apart AP)
  exact ⟨AP, F_tape, F_names, F_lties, F_reachN, F_growth, F_lgrown, F_built, F_lgrows, F_slow, F_empty, F_apart, (⟨He.glo_ok X Gm (c.d.fact 5 rfl), (fd_kp (c.d.def_ 13 rfl))⟩ : GF K mg "_law_tape"), (⟨He.glo_ok X Gm (c.d.fact 7 rfl), (fd_kp (c.d.def_ 15 rfl))⟩ : GF K mg "_law_names"), (⟨He.glo_ok X Gm (c.d.fact 8 rfl), (fd_kp (c.d.def_ 16 rfl))⟩ : GF K mg "_law_ties"), (⟨He.glo_ok X Gm (c.d.fact 11 rfl), (fd_kp (c.d.def_ 19 rfl))⟩ : GF K mg "_law_reach"), (⟨He.glo_ok X Gm (c.d.fact 9 rfl), (fd_kp (c.d.def_ 17 rfl))⟩ : GF K mg "_law_growth"), (⟨He.glo_ok X Gm (c.d.fact 15 rfl), (fd_kp (c.d.def_ 23 rfl))⟩ : GF K mg "_law_grown"), (⟨He.glo_ok X Gm (c.d.fact 18 rfl), (fd_kp (c.d.def_ 26 rfl))⟩ : GF K mg "_law_built"), (⟨He.glo_ok X Gm (c.d.fact 17 rfl), (fd_kp (c.d.def_ 25 rfl))⟩ : GF K mg "_law_grows"), (⟨He.glo_ok X Gm (c.d.fact 23 rfl), (fd_kp (c.d.def_ 31 rfl))⟩ : GF K mg "_law_slow"), (⟨He.glo_ok X Gm (c.d.fact 24 rfl), (fd_kp (c.d.def_ 32 rfl))⟩ : GF K mg "_law_empty"), (⟨He.glo_ok X Gm (c.d.fact 26 rfl), (fd_kp (c.d.def_ 34 rfl))⟩ : GF K mg "_law_apart")⟩
end
theorem facts {w : World} {K : PySem.W.Frag} {h : Heap} {mg : Str → Option Value} {f : Addr} (X : K.In h) (G : h.Ns mainGlobals mg) (hfa : mg ("law" : Str) = some (.ref f)) (c : Fact K) :
    ∃ fd : FuncData, (∀ (s : Shared) (v : Value), BindsTo s fd ⟨[v], []⟩ [("_law_script", v)]) ∧ ∀ base : Heap, K.In base → base.Ns mainGlobals mg → FnOk R.prog w K mg base CX0 11 f fd ["_law_script"] (fun vs H Q _ => liftSp K (tpLaw K) vs H Q fun _ _ _ => False) := by
  obtain ⟨fd, F⟩ := c.d.def_ 35 rfl
  have e := hfa.symm.trans (He.glo_ok X G (c.d.fact 2 rfl))
  cases e
  have b := FunD.bindsA (ps := ["_law_script"]) F fun _ _ _ _ _ _ us hl => match us, hl with | [_], _ => rfl
  refine ⟨fd, fun s v => b s [v] rfl, fun base Xb Gb => ok_plain (fn_ok F sc_law (fun ds A Q E z => by obtain ⟨_, _, e, _⟩ := z; subst e; rfl) (body_law (fact_law Xb Gb c)))⟩
end TL
open PySem PySem.W PySem.Calls PyProof.Rows
theorem PySem.Challenge.cw_laterwebs_k03_whole_webs_grow_holds : PySem.Challenge.rw_laterwebs_k03_whole_webs_grow.Holds := by
  w_on; o_law
  refine HandSHeadRun.head_any (r := OpenLaw.row PySem.Challenge.rw_laterwebs_k03_whole_webs_grow) (q := view (OpenLaw.row PySem.Challenge.rw_laterwebs_k03_whole_webs_grow).prog [36]) (H := TL.hk) (ob := TL.obs0) (M := 60000) (loose := TL.names) (d := HandSHeadRun.topDef (OpenLaw.row PySem.Challenge.rw_laterwebs_k03_whole_webs_grow).prog 36) (kwd := []) TL.obs0_eq
    (by kernel_rfl) (fun s => by kernel_rfl) TL.run (by kernel_rfl) (by kernel_rfl) (by kernel_rfl) (by rfl) (by first | assumption | decide +kernel) (by decide +kernel) ⟨rfl, rfl, rfl, rfl, rfl, by decide +kernel⟩ ?hw ?hc
  case hw => w_witness2
  case hc =>
    refine L2.walk_ofE (l := PySem.Challenge.rw_laterwebs_k03_whole_webs_grow) (n := 63) (k := 11) (x := "_law_script") (CX := L2.CX0) rfl (by decide) (by kernel_rfl) ⟨rfl, by decide, by decide⟩ ?F (fun _ _ _ _ z => z)
    intro w mg fa h Y G hmg0
    obtain ⟨K, KX, c⟩ := Y
    have hmg : mg ("law" : PySem.Str) = some (.ref fa) := by
      have e : (HandSHeadRun.topDef (OpenLaw.row PySem.Challenge.rw_laterwebs_k03_whole_webs_grow).prog 36).name = ("law" : PySem.Str) := by kernel_rfl
      rw [← e]
      exact hmg0
    obtain ⟨fd, hb, hF⟩ := TL.facts (w := w) KX G hmg c
    refine ⟨K, fd, _, KX, hb, fun H a ns hl _ hS => ?_, hF⟩
    obtain ⟨A, hr, rd⟩ := TL.script_rd hS
    exact ⟨[.ref a], A, fun d _ => d = .bl true, fun _ _ _ => False, .cons .ref .nil, hr, ⟨a, ns, rfl, rd, fun _ => rfl⟩, fun v H' z => by
      obtain ⟨d, A', _, rp, _, e⟩ := z
      subst e
      cases rp
      rfl, fun _ _ _ z => by
      obtain ⟨_, _, _, _, q⟩ := z
      exact q⟩
