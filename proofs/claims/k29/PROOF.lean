import PyProof.Rows.All
import Wide.FinOn
import HandS.ForMost
import HandS.ForExc
import HandS.Defaults
import HandS.TupAny
import HandS.TupMul
import HandS.TupLe
import HandS.SortInts
import HandS.IsInst
import HandS.Wide
import HandS.Conv
import HandS.Style
import HandS.Text
import KE.DataEq
import HandS.Zip
import KE.KSortedM
import HandS.HeadHook2
import HandS.SetFor
import HandS.Deep
import KE.GoesMore
import HandS.Iter
import HandS.Head0
import HandS.Head1
import HandS.Head2
import HandS.HeadEnd
import HandS.HeadHook1
import KE.KStateDown
import PySem.Challenge.RW_treebench_k29_black_numbers_by_ways
set_option Elab.async false
set_option linter.all false
set_option maxRecDepth 100000
set_option maxHeartbeats 4000000
/-! Dv: data in the place of the heap. D: data that no longer changes; M: data with owned lists; SR: slots and values at hand stand for data. -/
namespace Dv
open PySem PySem.Spec PyProof.Rows L2

inductive D where
  | non | bl (b : Bool) | int (i : Int) | str (x : Str) | tup (l : List D) | lst (l : List D)
  /-- a list that is only read: the script, a list of the module -/
  | rol (l : List D)
  /-- a dict: its keys, its values -/
  | dic (ks : List Key) (l : List D)

inductive M where
  | fz (d : D)
  | ow (l : List M)
  | dc (ks : List Key) (l : List D)

mutual
def M.frz : M → D
  | .fz d => d
  | .ow l => .lst (M.frzs l)
  | .dc ks l => .dic ks l
def M.frzs : List M → List D
  | [] => []
  | m :: r => m.frz :: M.frzs r
end
theorem frzs_map (l : List M) : M.frzs l = l.map M.frz := by
  induction l with
  | nil => rfl
  | cons m r ih => rw [M.frzs, ih]; rfl

abbrev Cn := Addr → Nat
def c0 : Cn := fun _ => 0
def one (a : Addr) : Cn := fun x => if x = a then 1 else 0
def add (c d : Cn) : Cn := fun x => c x + d x

/-- a list that nobody writes -/
def RL (K : PySem.W.Frag) (F : Addr → Prop) (H : Hp) (a : Addr) (xs : List V) : Prop :=
  (F a ∧ H a = some (.lst xs)) ∨ (∃ o, H a = some (.frz o (.lst xs))) ∨
    ∃ (o : Obj) (its : Array Value) (n : Nat), K.lookup a = some o ∧ o.cls = .type "list" ∧ o.dict = none ∧ o.data = .seq its n ∧ its.size ≤ sizeLine ∧ Vals xs its.toList
theorem RL.sq {K : PySem.W.Frag} {F : Addr → Prop} {H : Hp} {a : Addr} {xs : List V} (r : RL K F H a xs) : SqL K H a xs := by
  rcases r with ⟨_, h⟩ | h | h
  · exact .inl (.inl h)
  · exact .inl (.inr h)
  · exact .inr h
section
variable (K : PySem.W.Frag) (F : Addr → Prop) (H : Hp)
mutual
inductive RD : V → D → Prop
  | non : RD .non .non
  | bl (b : Bool) : RD (.bl b) (.bl b)
  | int (i : Int) : RD (.int i) (.int i)
  | str (x : Str) : RD (.str x) (.str x)
  | tup {a : Addr} {xs : List V} {ds : List D} : SqT K H a xs → RDs xs ds → RD (.ref a) (.tup ds)
  | lst {a : Addr} {xs : List V} {ds : List D} : F a → H a = some (.lst xs) → RDs xs ds → RD (.ref a) (.lst ds)
  | rol {a : Addr} {xs : List V} {ds : List D} : RL K F H a xs → RDs xs ds → RD (.ref a) (.rol ds)
  | dic {a : Addr} {ks : List Key} {xs : List V} {ds : List D} : F a → Rd H a (.dK (ks.zip xs)) → ks.length = xs.length → RDs xs ds → RD (.ref a) (.dic ks ds)
inductive RDs : List V → List D → Prop
  | nil : RDs [] []
  | cons {v : V} {vs : List V} {d : D} {ds : List D} : RD v d → RDs vs ds → RDs (v :: vs) (d :: ds)
end
mutual
inductive RM : V → M → Cn → Prop
  | fz {v : V} {d : D} : RD K F H v d → RM v (.fz d) c0
  | ow {a : Addr} {vs : List V} {ms : List M} {c : Cn} : H a = some (.lst vs) → RMs vs ms c → RM (.ref a) (.ow ms) (add (one a) c)
  | dc {a : Addr} {ks : List Key} {vs : List V} {ds : List D} : H a = some (.dK (ks.zip vs)) → ks.length = vs.length → RDs K F H vs ds → RM (.ref a) (.dc ks ds) (one a)
inductive RMs : List V → List M → Cn → Prop
  | nil : RMs [] [] c0
  | cons {v : V} {vs : List V} {m : M} {ms : List M} {c d : Cn} : RM v m c → RMs vs ms d → RMs (v :: vs) (m :: ms) (add c d)
end
inductive ROs : List (Option V) → List (Option M) → Cn → Prop
  | nil : ROs [] [] c0
  | skip {o : Option V} {os : List (Option V)} {ms : List (Option M)} {c : Cn} : ROs os ms c → ROs (o :: os) (none :: ms) c
  | cons {v : V} {m : M} {os : List (Option V)} {ms : List (Option M)} {c d : Cn} : RM K F H v m c → ROs os ms d → ROs (some v :: os) (some m :: ms) (add c d)

/-- values at hand τ stand for θ, slots σ for ρ -/
structure SR (τ : List (Option V)) (θ : List (Option M)) (σ : List (Option V)) (ρ : List (Option M)) : Prop where
  ex : ∃ c d, ROs K F H τ θ c ∧ ROs K F H σ ρ d ∧ ∀ x, c x + d x ≤ 1 ∧ (F x → c x + d x = 0)
  fd : ∀ b, F b → H b ≠ none
end

section
variable {K : PySem.W.Frag} {F F' : Addr → Prop} {H H' : Hp}

/-- what may be written -/
def MuO (o : HO) : Prop := (∃ xs, o = .lst xs) ∨ ∃ kvs, o = .dK kvs
structure Grow (F : Addr → Prop) (H : Hp) (F' : Addr → Prop) (H' : Hp) : Prop where
  f : ∀ b, F b → F' b
  h : ∀ b xs, F b → H b = some (.lst xs) → H' b = some (.lst xs)
  d : ∀ b kvs, F b → Rd H b (.dK kvs) → Rd H' b (.dK kvs)
  t : ∀ b o, H b = some o → ¬ MuO o → H' b = some o

theorem Grow.rdT (g : Grow F H F' H') {b : Addr} {xs : List V} (r : Rd H b (.tup xs)) : Rd H' b (.tup xs) := by
  rcases r with r | ⟨o, r⟩
  · exact .inl (g.t _ _ r (fun z => by rcases z with ⟨_, z⟩ | ⟨_, z⟩ <;> cases z))
  · exact .inr ⟨o, g.t _ _ r (fun z => by rcases z with ⟨_, z⟩ | ⟨_, z⟩ <;> cases z)⟩
theorem Grow.rl (g : Grow F H F' H') {b : Addr} {xs : List V} (r : RL K F H b xs) : RL K F' H' b xs := by
  rcases r with ⟨f, h⟩ | ⟨o, h⟩ | h
  · exact .inl ⟨g.f _ f, g.h _ _ f h⟩
  · exact .inr (.inl ⟨o, g.t _ _ h (fun z => by rcases z with ⟨_, z⟩ | ⟨_, z⟩ <;> cases z)⟩)
  · exact .inr (.inr h)

mutual
theorem RD.grow (g : Grow F H F' H') : ∀ {v : V} {d : D}, RD K F H v d → RD K F' H' v d
  | _, _, .non => .non
  | _, _, .bl b => .bl b
  | _, _, .int i => .int i
  | _, _, .str x => .str x
  | _, _, .tup (.inl r) q => .tup (.inl (g.rdT r)) (RDs.grow g q)
  | _, _, .tup (.inr r) q => .tup (.inr r) (RDs.grow g q)
  | _, _, .lst f r q => .lst (g.f _ f) (g.h _ _ f r) (RDs.grow g q)
  | _, _, .rol r q => .rol (g.rl r) (RDs.grow g q)
  | _, _, .dic f r l q => .dic (g.f _ f) (g.d _ _ f r) l (RDs.grow g q)
theorem RDs.grow (g : Grow F H F' H') : ∀ {v : List V} {d : List D}, RDs K F H v d → RDs K F' H' v d
  | _, _, .nil => .nil
  | _, _, .cons r q => .cons (RD.grow g r) (RDs.grow g q)
end
theorem one_self (a : Addr) : one a a = 1 := by unfold one; rw [if_pos rfl]
mutual
theorem RM.grow (g : Grow F H F' H') : ∀ {v : V} {m : M} {c : Cn}, RM K F H v m c → (∀ x, 0 < c x → H' x = H x) → RM K F' H' v m c
  | _, _, _, .fz r, _ => .fz (r.grow g)
  | _, _, _, .ow (a := a) e q, h => .ow (by rw [h a (by unfold add; rw [one_self]; omega)]; exact e) (RMs.grow g q fun x hx => h x (by unfold add; omega))
  | _, _, _, .dc (a := a) e l q, h => .dc (by rw [h a (by rw [one_self]; omega)]; exact e) l (RDs.grow g q)
theorem RMs.grow (g : Grow F H F' H') : ∀ {v : List V} {m : List M} {c : Cn}, RMs K F H v m c → (∀ x, 0 < c x → H' x = H x) → RMs K F' H' v m c
  | _, _, _, .nil, _ => .nil
  | _, _, _, .cons r q, h => .cons (RM.grow g r fun x hx => h x (by unfold add; omega)) (RMs.grow g q fun x hx => h x (by unfold add; omega))
end
theorem ROs.grow (g : Grow F H F' H') : ∀ {v : List (Option V)} {m : List (Option M)} {c : Cn}, ROs K F H v m c → (∀ x, 0 < c x → H' x = H x) → ROs K F' H' v m c := by
  intro v m c r
  induction r with
  | nil => intro _; exact .nil
  | skip _ ih => intro h; exact .skip (ih h)
  | cons r q ih => intro h; exact .cons (r.grow g fun x hx => h x (by unfold add; omega)) (ih fun x hx => h x (by unfold add; omega))
mutual
theorem RM.there : ∀ {v : V} {m : M} {c : Cn}, RM K F H v m c → ∀ x, 0 < c x → ∃ o, H x = some o ∧ MuO o
  | _, _, _, .fz r, x, h => absurd h (by unfold c0; omega)
  | _, _, _, .ow (a := a) (c := c) e q, x, h => by
    by_cases hx : x = a
    · rw [hx]; exact ⟨_, e, .inl ⟨_, rfl⟩⟩
    · exact RMs.there q x (by unfold add one at h; rw [if_neg hx] at h; omega)
  | _, _, _, .dc (a := a) e l q, x, h => by
    by_cases hx : x = a
    · rw [hx]; exact ⟨_, e, .inr ⟨_, rfl⟩⟩
    · exact absurd h (by unfold one; rw [if_neg hx]; omega)
theorem RMs.there : ∀ {v : List V} {m : List M} {c : Cn}, RMs K F H v m c → ∀ x, 0 < c x → ∃ o, H x = some o ∧ MuO o
  | _, _, _, .nil, x, h => absurd h (by unfold c0; omega)
  | _, _, _, .cons (c := c) (d := d) r q, x, h => by
    by_cases hc : 0 < c x
    · exact RM.there r x hc
    · exact RMs.there q x (by unfold add at h; omega)
end
theorem ROs.there : ∀ {v : List (Option V)} {m : List (Option M)} {c : Cn}, ROs K F H v m c → ∀ x, 0 < c x → ∃ o, H x = some o ∧ MuO o := by
  intro v m c r
  induction r with
  | nil => intro x h; exact absurd h (by unfold c0; omega)
  | skip _ ih => exact ih
  | @cons v m os ms c d r q ih =>
    intro x h
    by_cases hc : 0 < c x
    · exact r.there x hc
    · exact ih x (by unfold add at h; omega)
theorem ROs.len : ∀ {v : List (Option V)} {m : List (Option M)} {c : Cn}, ROs K F H v m c → v.length = m.length := by
  intro v m c r
  induction r with
  | nil => rfl
  | skip _ ih => simp [ih]
  | cons _ _ ih => simp [ih]
theorem RMs.len : ∀ {v : List V} {m : List M} {c : Cn}, RMs K F H v m c → v.length = m.length
  | _, _, _, .nil => rfl
  | _, _, _, .cons _ q => by simp [RMs.len q]
theorem RDs.len : ∀ {v : List V} {m : List D}, RDs K F H v m → v.length = m.length
  | _, _, .nil => rfl
  | _, _, .cons _ q => by simp [RDs.len q]

/-- a fresh object -/
theorem Grow.new {p : Addr} {o : HO} (h : H p = none) : Grow F H F (upd H p o) :=
  ⟨fun _ f => f, fun b u _ e => by rw [upd_ne (ne_of_none e h)]; exact e, fun b u _ e => by
    rcases e with e | ⟨od, e⟩
    · exact .inl (by rw [upd_ne (ne_of_none e h)]; exact e)
    · exact .inr ⟨od, by rw [upd_ne (ne_of_none e h)]; exact e⟩, fun b u e _ => by rw [upd_ne (ne_of_none e h)]; exact e⟩
/-- an owned object is written -/
theorem Grow.writeO {p : Addr} {u o : HO} (h : H p = some u) (hu : MuO u) (n : ¬ F p) : Grow F H F (upd H p o) :=
  ⟨fun _ f => f, fun b u f e => by
    rw [upd_ne (fun z => by subst z; exact n f)]; exact e, fun b u f e => by
    have hb : b ≠ p := fun z => by subst z; exact n f
    rcases e with e | ⟨od, e⟩
    · exact .inl (by rw [upd_ne hb]; exact e)
    · exact .inr ⟨od, by rw [upd_ne hb]; exact e⟩, fun b u e nl => by
    rw [upd_ne (fun z => ?_)]; exact e
    subst z; rw [h] at e; cases e; exact nl hu⟩
theorem Grow.write {p : Addr} {xs : List V} {o : HO} (h : H p = some (.lst xs)) (n : ¬ F p) : Grow F H F (upd H p o) :=
  ⟨fun _ f => f, fun b u f e => by
    rw [upd_ne (fun z => by subst z; exact n f)]; exact e, fun b u f e => by
    have hb : b ≠ p := fun z => by subst z; exact n f
    rcases e with e | ⟨od, e⟩
    · exact .inl (by rw [upd_ne hb]; exact e)
    · exact .inr ⟨od, by rw [upd_ne hb]; exact e⟩, fun b u e nl => by
    rw [upd_ne (fun z => ?_)]; exact e
    subst z; rw [h] at e; cases e; exact nl (.inl ⟨_, rfl⟩)⟩
theorem Grow.more {G : Addr → Prop} : Grow F H (fun x => F x ∨ G x) H := ⟨fun _ f => .inl f, fun _ _ _ e => e, fun _ _ _ e => e, fun _ _ e _ => e⟩

theorem ROs.cast {v : List (Option V)} {m : List (Option M)} {c d : Cn} (r : ROs K F H v m c) (e : ∀ x, c x = d x) : ROs K F H v m d := by
  have : c = d := funext e
  subst this; exact r
theorem RM.cast {v : V} {m : M} {c d : Cn} (r : RM K F H v m c) (e : ∀ x, c x = d x) : RM K F H v m d := by
  have : c = d := funext e
  subst this; exact r
theorem RMs.cast {v : List V} {m : List M} {c d : Cn} (r : RMs K F H v m c) (e : ∀ x, c x = d x) : RMs K F H v m d := by
  have : c = d := funext e
  subst this; exact r

/-- the whole state under a fresh object -/
theorem SR.new {τ : List (Option V)} {θ : List (Option M)} {σ : List (Option V)} {ρ : List (Option M)} (s : SR K F H τ θ σ ρ) {p : Addr} {o : HO} (h : H p = none) : SR K F (upd H p o) τ θ σ ρ := by
  obtain ⟨⟨c, d, r1, r2, n⟩, fd⟩ := s
  have k : ∀ x (u : HO), H x = some u → upd H p o x = H x := fun x xs e => upd_ne (ne_of_none e h)
  refine ⟨⟨c, d, r1.grow (Grow.new h) fun x hx => ?_, r2.grow (Grow.new h) fun x hx => ?_, n⟩, fun b f => ?_⟩
  · obtain ⟨xs, e, _⟩ := r1.there x hx; exact k x xs e
  · obtain ⟨xs, e, _⟩ := r2.there x hx; exact k x xs e
  · by_cases hb : b = p
    · subst hb; rw [upd_same]; exact fun z => nomatch z
    · rw [upd_ne hb]; exact fd b f
theorem SR.push {τ : List (Option V)} {θ : List (Option M)} {σ : List (Option V)} {ρ : List (Option M)} (s : SR K F H τ θ σ ρ) {v : V} {d : D} (r : RD K F H v d) : SR K F H (some v :: τ) (some (.fz d) :: θ) σ ρ := by
  obtain ⟨⟨c, d, r1, r2, n⟩, fd⟩ := s
  refine ⟨⟨_, d, .cons (.fz r) r1, r2, fun x => ?_⟩, fd⟩
  unfold add c0
  have := n x
  refine ⟨by omega, fun f => by have := this.2 f; omega⟩
theorem SR.pushN {τ : List (Option V)} {θ : List (Option M)} {σ : List (Option V)} {ρ : List (Option M)} (s : SR K F H τ θ σ ρ) (o : Option V) : SR K F H (o :: τ) (none :: θ) σ ρ := by
  obtain ⟨⟨c, d, r1, r2, n⟩, fd⟩ := s
  exact ⟨⟨_, d, .skip r1, r2, n⟩, fd⟩
theorem SR.pop {τ : List (Option V)} {θ : List (Option M)} {σ : List (Option V)} {ρ : List (Option M)} {o : Option V} {m : Option M} (s : SR K F H (o :: τ) (m :: θ) σ ρ) : SR K F H τ θ σ ρ := by
  obtain ⟨⟨c, d, r1, r2, n⟩, fd⟩ := s
  cases r1 with
  | skip r1 => exact ⟨⟨_, d, r1, r2, n⟩, fd⟩
  | @cons v m os ms c1 c2 r r1 =>
    refine ⟨⟨_, d, r1, r2, fun x => ?_⟩, fd⟩
    have := n x
    unfold add at this
    refine ⟨by omega, fun f => by have := this.2 f; omega⟩

/-! the slots one by one -/
def su (l : List (Option M)) (i : Nat) (m : Option M) : List (Option M) := l.set i m
/-- slot i taken apart from the others -/
theorem ROs.take : ∀ {os : List (Option V)} {ms : List (Option M)} {d : Cn}, ROs K F H os ms d → ∀ {i : Nat} {m : M}, ms[i]? = some (some m) →
    ∃ v c e, os[i]? = some (some v) ∧ RM K F H v m c ∧ (∀ x, d x = c x + e x) ∧ ROs K F H os (ms.set i none) e := by
  intro os ms d r
  induction r with
  | nil => intro i m h; simp at h
  | @skip o os ms c q ih =>
    intro i m h
    cases i with
    | zero => simp at h
    | succ i =>
      obtain ⟨v, c1, e, h1, h2, h3, h4⟩ := ih (i := i) (m := m) (by simpa using h)
      exact ⟨v, c1, e, by simpa using h1, h2, h3, .skip h4⟩
  | @cons v m' os ms c d r q ih =>
    intro i m h
    cases i with
    | zero =>
      have e : m' = m := by simpa using h
      subst e
      exact ⟨v, c, d, by simp, r, fun x => rfl, .skip q⟩
    | succ i =>
      obtain ⟨v1, c1, e, h1, h2, h3, h4⟩ := ih (i := i) (m := m) (by simpa using h)
      exact ⟨v1, c1, _, by simpa using h1, h2, fun x => by have := h3 x; unfold add; omega, .cons r h4⟩
/-- slot i is filled, whatever it was -/
theorem ROs.put : ∀ {os : List (Option V)} {ms : List (Option M)} {d : Cn}, ROs K F H os ms d → ∀ {i : Nat} {v : V} {m : M} {c : Cn}, i < os.length → RM K F H v m c →
    ∃ e, (∀ x, e x ≤ c x + d x) ∧ ROs K F H (os.set i (some v)) (ms.set i (some m)) e := by
  intro os ms d r
  induction r with
  | nil => intro i v m c h; simp at h
  | @skip o os ms c q ih =>
    intro i v m c1 h r
    cases i with
    | zero => exact ⟨_, fun x => by show add c1 c x ≤ _; unfold add; omega, .cons r q⟩
    | succ i =>
      obtain ⟨e, h1, h2⟩ := ih (i := i) (by simpa using h) r
      exact ⟨e, h1, .skip h2⟩
  | @cons v' m' os ms c d r' q ih =>
    intro i v m c1 h r
    cases i with
    | zero => exact ⟨_, fun x => by show add c1 d x ≤ _; unfold add; omega, .cons r q⟩
    | succ i =>
      obtain ⟨e, h1, h2⟩ := ih (i := i) (by simpa using h) r
      exact ⟨_, fun x => by have := h1 x; show add c e x ≤ _; unfold add; omega, .cons r' h2⟩
/-- slot i, filled with what stands there -/
theorem ROs.back : ∀ {os : List (Option V)} {ms : List (Option M)} {d : Cn}, ROs K F H os ms d → ∀ {i : Nat} {v : V} {m : M} {c : Cn}, os[i]? = some (some v) → ms[i]? = some none → RM K F H v m c →
    ∃ e, (∀ x, e x = c x + d x) ∧ ROs K F H os (ms.set i (some m)) e := by
  intro os ms d r
  induction r with
  | nil => intro i v m c h; simp at h
  | @skip o os ms c q ih =>
    intro i v m c1 h hm r
    cases i with
    | zero =>
      have e : o = some v := by simpa using h
      subst e
      exact ⟨_, fun x => rfl, .cons r q⟩
    | succ i =>
      obtain ⟨e, h1, h2⟩ := ih (i := i) (by simpa using h) (by simpa using hm) r
      exact ⟨e, h1, .skip h2⟩
  | @cons v' m' os ms c d r' q ih =>
    intro i v m c1 h hm r
    cases i with
    | zero => simp at hm
    | succ i =>
      obtain ⟨e, h1, h2⟩ := ih (i := i) (by simpa using h) (by simpa using hm) r
      exact ⟨_, fun x => by have := h1 x; show add c e x = _; unfold add; omega, .cons r' h2⟩
theorem ROs.app : ∀ {os : List (Option V)} {ms : List (Option M)} {c : Cn}, ROs K F H os ms c → ∀ {os' : List (Option V)} {ms' : List (Option M)} {d : Cn}, ROs K F H os' ms' d → ROs K F H (os ++ os') (ms ++ ms') (add c d) := by
  intro os ms c r
  induction r with
  | nil => intro os' ms' d q; exact q.cast fun x => by unfold add c0; omega
  | skip _ ih => intro os' ms' d q; exact .skip (ih q)
  | cons r _ ih => intro os' ms' d q; exact (ROs.cons r (ih q)).cast fun x => by unfold add; omega
theorem ROs.split : ∀ {os : List (Option V)} {ms : List (Option M)} {os' : List (Option V)} {ms' : List (Option M)} {c : Cn}, os.length = ms.length → ROs K F H (os ++ os') (ms ++ ms') c →
    ∃ d e, ROs K F H os ms d ∧ ROs K F H os' ms' e ∧ ∀ x, c x = d x + e x := by
  intro os
  induction os with
  | nil =>
    intro ms os' ms' c hl r
    cases ms with
    | nil => exact ⟨c0, c, .nil, r, fun x => by unfold c0; omega⟩
    | cons _ _ => simp at hl
  | cons o os ih =>
    intro ms os' ms' c hl r
    cases ms with
    | nil => simp at hl
    | cons m ms =>
      cases r with
      | skip r =>
        obtain ⟨d, e, h1, h2, h3⟩ := ih (by simpa using hl) r
        exact ⟨d, e, .skip h1, h2, h3⟩
      | @cons v m' _ _ c1 c2 r q =>
        obtain ⟨d, e, h1, h2, h3⟩ := ih (by simpa using hl) q
        exact ⟨_, e, .cons r h1, h2, fun x => by have := h3 x; unfold add; omega⟩

section
variable {τ : List (Option V)} {θ : List (Option M)} {σ : List (Option V)} {ρ : List (Option M)}
theorem SR.len (s : SR K F H τ θ σ ρ) : σ.length = ρ.length := let ⟨⟨_, _, _, r, _⟩, _⟩ := s; r.len
/-- a slot's data, read -/
theorem SR.get (s : SR K F H τ θ σ ρ) {i : Nat} {m : M} (h : ρ[i]? = some (some m)) : ∃ v c, σ[i]? = some (some v) ∧ RM K F H v m c ∧ (∀ x, 0 < c x → ¬ F x) := by
  obtain ⟨⟨c, d, r1, r2, n⟩, fd⟩ := s
  obtain ⟨v, c1, e, h1, h2, h3, h4⟩ := r2.take h
  exact ⟨v, c1, h1, h2, fun x hx f => by have := (n x).2 f; have := h3 x; omega⟩
/-- the value at hand is stored -/
theorem SR.store {v : V} {m : M} (s : SR K F H (some v :: τ) (some m :: θ) σ ρ) {i : Nat} (h : i < ρ.length) : SR K F H τ θ (σ.set i (some v)) (ρ.set i (some m)) := by
  have hl := s.len
  obtain ⟨⟨c, d, r1, r2, n⟩, fd⟩ := s
  cases r1 with
  | @cons _ _ _ _ c1 c2 r r1 =>
    obtain ⟨e, h1, h2⟩ := r2.put (i := i) (by omega) r
    refine ⟨⟨_, e, r1, h2, fun x => ?_⟩, fd⟩
    have h3 := h1 x
    have h4 := n x
    unfold add at h4
    refine ⟨by omega, fun f => by have := h4.2 f; omega⟩
/-- a slot's data come to hand, the slot is forgotten -/
theorem SR.move (s : SR K F H τ θ σ ρ) {i : Nat} {m : M} (h : ρ[i]? = some (some m)) : ∃ v, σ[i]? = some (some v) ∧ SR K F H (some v :: τ) (some m :: θ) σ (ρ.set i none) := by
  obtain ⟨⟨c, d, r1, r2, n⟩, fd⟩ := s
  obtain ⟨v, c1, e, h1, h2, h3, h4⟩ := r2.take h
  refine ⟨v, h1, ⟨_, e, .cons h2 r1, h4, fun x => ?_⟩, fd⟩
  have := n x
  have := h3 x
  unfold add
  refine ⟨by omega, fun f => by have := (n x).2 f; omega⟩
/-- they go back -/
theorem SR.back {v : V} {m : M} (s : SR K F H (some v :: τ) (some m :: θ) σ ρ) {i : Nat} (h : σ[i]? = some (some v)) (hn : ρ[i]? = some none) : SR K F H τ θ σ (ρ.set i (some m)) := by
  obtain ⟨⟨c, d, r1, r2, n⟩, fd⟩ := s
  cases r1 with
  | @cons _ _ _ _ c1 c2 r r1 =>
    obtain ⟨e, h1, h2⟩ := r2.back h hn r
    refine ⟨⟨_, e, r1, h2, fun x => ?_⟩, fd⟩
    have h3 := h1 x
    have h4 := n x
    unfold add at h4
    refine ⟨by omega, fun f => by have := h4.2 f; omega⟩
/-- a slot is forgotten -/
theorem SR.forget (s : SR K F H τ θ σ ρ) {i : Nat} : SR K F H τ θ σ (ρ.set i none) := by
  by_cases hi : i < ρ.length
  · cases h : ρ[i] with
    | none =>
      have e : ρ.set i none = ρ := by
        rw [← h]; exact List.set_getElem_self hi
      rw [e]; exact s
    | some m =>
      obtain ⟨v, _, q⟩ := s.move (i := i) (m := m) (by rw [List.getElem?_eq_getElem hi, h])
      exact q.pop
  · rw [List.set_eq_of_length_le (by omega)]; exact s
end
end
end Dv

set_option Elab.async false
set_option linter.all false
set_option maxRecDepth 100000
set_option maxHeartbeats 4000000
namespace Dv
open PySem PySem.Spec PyProof.Rows L2

section
variable {K : PySem.W.Frag} {F F' : Addr → Prop} {H H' : Hp}
/-! ### frozen -/
mutual
theorem RM.frz (g : Grow F H F' H) : ∀ {v : V} {m : M} {c : Cn}, RM K F H v m c → (∀ x, 0 < c x → F' x) → RD K F' H v m.frz
  | _, _, _, .fz r, _ => r.grow g
  | _, _, _, .ow (a := a) e q, h => .lst (h a (by unfold add; rw [one_self]; omega)) e (RMs.frz g q fun x hx => h x (by unfold add; omega))
  | _, _, _, .dc (a := a) e l q, h => .dic (h a (by rw [one_self]; omega)) (.inl e) l (RDs.grow g q)
theorem RMs.frz (g : Grow F H F' H) : ∀ {v : List V} {m : List M} {c : Cn}, RMs K F H v m c → (∀ x, 0 < c x → F' x) → RDs K F' H v (M.frzs m)
  | _, _, _, .nil, _ => .nil
  | _, _, _, .cons r q, h => .cons (RM.frz g r fun x hx => h x (by unfold add; omega)) (RMs.frz g q fun x hx => h x (by unfold add; omega))
end
theorem RDs.fz : ∀ {vs : List V} {ds : List D}, RDs K F H vs ds → RMs K F H vs (ds.map M.fz) c0
  | _, _, .nil => .nil
  | _, _, .cons r q => (RMs.cons (.fz r) (RDs.fz q)).cast fun x => rfl
theorem RMs.unfz : ∀ {vs : List V} {ds : List D} {c : Cn}, RMs K F H vs (ds.map M.fz) c → RDs K F H vs ds ∧ ∀ x, c x = 0
  | _, [], _, .nil => ⟨.nil, fun _ => rfl⟩
  | _, _ :: _, _, .cons (.fz r) q => let ⟨a, b⟩ := RMs.unfz q; ⟨.cons r a, fun x => by unfold add c0; have := b x; omega⟩

variable {τ : List (Option V)} {θ : List (Option M)} {σ : List (Option V)} {ρ : List (Option M)}
theorem SR.frzTop {v : V} {m : M} (s : SR K F H (some v :: τ) (some m :: θ) σ ρ) : ∃ F', SR K F' H (some v :: τ) (some (.fz m.frz) :: θ) σ ρ := by
  obtain ⟨⟨c, d, r1, r2, n⟩, fd⟩ := s
  cases r1 with
  | @cons _ _ _ _ c1 c2 r r1 =>
    refine ⟨fun x => F x ∨ 0 < c1 x, ⟨⟨_, d, .cons (.fz (r.frz Grow.more fun x hx => .inr hx)) (r1.grow Grow.more fun _ _ => rfl), r2.grow Grow.more fun _ _ => rfl, fun x => ?_⟩, fun b f => ?_⟩⟩
    · have := n x
      unfold add at this ⊢
      unfold c0
      refine ⟨by omega, fun f => ?_⟩
      rcases f with f | f
      · have := this.2 f; omega
      · omega
    · rcases f with f | f
      · exact fd b f
      · obtain ⟨xs, e, _⟩ := r.there b f
        rw [e]; exact fun z => nomatch z

/-- a slot is frozen where it stands -/
theorem SR.frzSlot (s : SR K F H τ θ σ ρ) {i : Nat} {m : M} (h : ρ[i]? = some (some m)) : ∃ F', SR K F' H τ θ σ (ρ.set i (some (.fz m.frz))) := by
  obtain ⟨v, hv, q⟩ := s.move h
  obtain ⟨F', q⟩ := q.frzTop
  have hi : i < ρ.length := (List.getElem?_eq_some_iff.mp h).1
  have q2 := q.back (i := i) hv (by rw [List.getElem?_set_self hi])
  rw [List.set_set] at q2
  exact ⟨F', q2⟩

/-! ### what an operation hands back -/
inductive O where
  | ex (d : D) | nt (l : List D) | nl (l : List D)
def O.m : O → M
  | .ex d => .fz d
  | .nt l => .fz (.tup l)
  | .nl l => .ow (l.map .fz)
def Res (K : PySem.W.Frag) (F : Addr → Prop) (H : Hp) (o : O) (Q : VK) : Prop :=
  match o with
  | .ex d => ∀ v, RD K F H v d → Q v H
  | .nt ds => ∀ p vs, RDs K F H vs ds → H p = none → Q (.ref p) (upd H p (.tup vs))
  | .nl ds => ∀ p vs, RDs K F H vs ds → H p = none → Q (.ref p) (upd H p (.lst vs))
/-- a new list of what is owned -/
theorem SR.newMut {vs : List V} {ms : List M} {c1 c2 d : Cn} {p : Addr} (r : RMs K F H vs ms c1) (r1 : ROs K F H τ θ c2) (r2 : ROs K F H σ ρ d) (n : ∀ x, c1 x + c2 x + d x ≤ 1 ∧ (F x → c1 x + c2 x + d x = 0)) (fd : ∀ b, F b → H b ≠ none) (hp : H p = none) :
    SR K F (upd H p (.lst vs)) (some (.ref p) :: τ) (some (.ow ms) :: θ) σ ρ := by
  have k : ∀ x (u : HO), H x = some u → upd H p (.lst vs) x = H x := fun x xs e => upd_ne (ne_of_none e hp)
  have kr : ∀ x, 0 < c1 x → upd H p (.lst vs) x = H x := fun x hx => by obtain ⟨xs, e, _⟩ := r.there x hx; exact k x xs e
  have k1 : ∀ x, 0 < c2 x → upd H p (.lst vs) x = H x := fun x hx => by obtain ⟨xs, e, _⟩ := r1.there x hx; exact k x xs e
  have k2 : ∀ x, 0 < d x → upd H p (.lst vs) x = H x := fun x hx => by obtain ⟨xs, e, _⟩ := r2.there x hx; exact k x xs e
  have z1 : c1 p = 0 := by
    cases h : c1 p with
    | zero => rfl
    | succ j => obtain ⟨xs, e, _⟩ := r.there p (by omega); rw [hp] at e; cases e
  have z2 : c2 p = 0 := by
    cases h : c2 p with
    | zero => rfl
    | succ j => obtain ⟨xs, e, _⟩ := r1.there p (by omega); rw [hp] at e; cases e
  have z3 : d p = 0 := by
    cases h : d p with
    | zero => rfl
    | succ j => obtain ⟨xs, e, _⟩ := r2.there p (by omega); rw [hp] at e; cases e
  refine ⟨⟨_, d, .cons (.ow upd_same (r.grow (Grow.new hp) kr)) (r1.grow (Grow.new hp) k1), r2.grow (Grow.new hp) k2, fun x => ?_⟩, fun b f => ?_⟩
  · have := n x
    unfold add one
    by_cases hx : x = p
    · subst hx
      rw [if_pos rfl]
      exact ⟨by omega, fun f => absurd hp (fd _ f)⟩
    · rw [if_neg hx]
      exact ⟨by omega, fun f => by have := this.2 f; omega⟩
  · by_cases hb : b = p
    · subst hb; rw [upd_same]; exact fun z => nomatch z
    · rw [upd_ne hb]; exact fd b f
theorem SR.res (s : SR K F H τ θ σ ρ) {o : O} {Q : VK} (h : ∀ F' H' v, SR K F' H' (some v :: τ) (some o.m :: θ) σ ρ → Q v H') : Res K F H o Q := by
  cases o with
  | ex d => exact fun v r => h F H v (s.push r)
  | nt ds => exact fun p vs r hp => h F _ _ ((s.new hp).push (.tup (.inl (.inl upd_same)) (r.grow (Grow.new hp))))
  | nl ds =>
    intro p vs r hp
    refine h F _ _ ?_
    obtain ⟨⟨c, d, r1, r2, n⟩, fd⟩ := s
    exact SR.newMut r.fz r1 r2 (fun x => by unfold c0; have := n x; exact ⟨by omega, fun f => by have := this.2 f; omega⟩) fd hp
end

/-! ### expressions -/
abbrev Ev := List (Option M)
/-- a value at hand: its own, or that of a slot whose list is owned there -/
inductive R where
  | vl (m : M) | al (i : Nat)
def R.own : R → Option M
  | .vl m => some m
  | .al _ => none
def R.ok (σ : List (Option V)) : R → V → Prop
  | .vl _, _ => True
  | .al i, v => σ[i]? = some (some v)
def R.look (ρ : Ev) : R → Option M
  | .vl m => some m
  | .al i => (ρ[i]?).join
abbrev FE := Ev → Option (R × Ev)
abbrev FA := Ev → Option (List R × Ev)
abbrev FT := Ev → Option (Bool × Ev)
def tE (K : PySem.W.Frag) (f : FE) : TE := fun σ H Q => ∃ F τ θ ρ r ρ', SR K F H τ θ σ ρ ∧ f ρ = some (r, ρ') ∧ ∀ F' H' v, SR K F' H' (some v :: τ) (r.own :: θ) σ ρ' → r.ok σ v → Q v H'
def tT (K : PySem.W.Frag) (f : FT) : TT := fun σ H Q => ∃ F τ θ ρ b ρ', SR K F H τ θ σ ρ ∧ f ρ = some (b, ρ') ∧ ∀ F' H', SR K F' H' τ θ σ ρ' → Q b H'
inductive Oks (σ : List (Option V)) : List V → List R → Prop
  | nil : Oks σ [] []
  | cons {v : V} {r : R} {vs : List V} {rs : List R} : r.ok σ v → Oks σ vs rs → Oks σ (v :: vs) (r :: rs)
def tA (K : PySem.W.Frag) (f : FA) : TA := fun σ H Q => ∃ F τ θ ρ rs ρ', SR K F H τ θ σ ρ ∧ f ρ = some (rs, ρ') ∧ ∀ F' H' vs, SR K F' H' (vs.map some ++ τ) (rs.map R.own ++ θ) σ ρ' → Oks σ vs rs → Q vs H'
abbrev EX (X : Cx) (e : Expr) (f : FE) : Prop := PE X e (tE X.K f)
abbrev TX (X : Cx) (e : Expr) (f : FT) : Prop := PT X e (tT X.K f)
abbrev AX (X : Cx) (es : List Expr) (f : FA) : Prop := PA X es (tA X.K f)

theorem PE.imp {X : Cx} {e : Expr} {t u : TE} (h : PE X e t) (i : ∀ σ H Q, u σ H Q → t σ H Q) : PE X e u := ⟨fun pins s σ H Q I q => h.run pins s σ H Q I (i σ H Q q)⟩
theorem PT.imp {X : Cx} {e : Expr} {t u : TT} (h : PT X e t) (i : ∀ σ H Q, u σ H Q → t σ H Q) : PT X e u := ⟨fun pins s σ H Q I q => h.run pins s σ H Q I (i σ H Q q)⟩
theorem PA.imp {X : Cx} {e : List Expr} {t u : TA} (h : PA X e t) (i : ∀ σ H Q, u σ H Q → t σ H Q) : PA X e u := ⟨fun p pins s σ H Q I q => h.run p pins s σ H Q I (i σ H Q q)⟩

section
variable {X : Cx} {K : PySem.W.Frag} {F F' : Addr → Prop} {H H' : Hp} {τ : List (Option V)} {θ : List (Option M)} {σ : List (Option V)} {ρ : List (Option M)}

def RMok (K : PySem.W.Frag) (F : Addr → Prop) (H : Hp) (v : V) (m : M) : Prop := ∃ c, RM K F H v m c ∧ ∀ x, 0 < c x → ¬ F x
theorem SR.look {v : V} {r : R} {m : M} (s : SR K F H (some v :: τ) (r.own :: θ) σ ρ) (o : r.ok σ v) (h : r.look ρ = some m) : RMok K F H v m := by
  cases r with
  | vl m' =>
    have e : m' = m := by simpa [R.look] using h
    subst e
    obtain ⟨⟨c, d, r1, r2, n⟩, fd⟩ := s
    cases r1 with
    | @cons _ _ _ _ c1 c2 r r1 => exact ⟨c1, r, fun x hx f => by have := (n x).2 f; unfold add at this; omega⟩
  | al i =>
    have h' : ρ[i]? = some (some m) := by
      change (ρ[i]?).join = some m at h
      cases e : ρ[i]? with
      | none => rw [e] at h; cases h
      | some a => rw [e] at h; simp at h; subst h; rfl
    obtain ⟨w, c, e, r, n⟩ := s.get h'
    have o' : σ[i]? = some (some v) := o
    rw [o'] at e; cases e
    exact ⟨c, r, n⟩
theorem SR.under {o o' : Option V} {m m' : Option M} (s : SR K F H (o :: o' :: τ) (m :: m' :: θ) σ ρ) : SR K F H (o' :: o :: τ) (m' :: m :: θ) σ ρ := by
  obtain ⟨⟨c, d, r1, r2, n⟩, fd⟩ := s
  cases r1 with
  | skip r1 =>
    cases r1 with
    | skip r1 => exact ⟨⟨_, d, .skip (.skip r1), r2, n⟩, fd⟩
    | cons r r1 => exact ⟨⟨_, d, .cons r (.skip r1), r2, n⟩, fd⟩
  | cons r r1 =>
    cases r1 with
    | skip r1 => exact ⟨⟨_, d, .skip (.cons r r1), r2, n⟩, fd⟩
    | @cons _ _ _ _ c1 c2 r' r1 => exact ⟨⟨_, d, .cons r' (.cons r r1), r2, fun x => by have := n x; unfold add at this ⊢; exact ⟨by omega, fun f => by have := this.2 f; omega⟩⟩, fd⟩

/-! #### leaves -/
def fC (d : D) : FE := fun ρ => some (.vl (.fz d), ρ)
def fV (i : Nat) : FE := fun ρ => match ρ[i]? with
  | some (some (.fz d)) => some (.vl (.fz d), ρ)
  | some (some (.ow _)) => some (.al i, ρ)
  | some (some (.dc _ _)) => some (.al i, ρ)
  | _ => none
theorem eC {e : Expr} {w : V} {d : D} (h : PE X e (tC w)) (r : ∀ F H, RD X.K F H w d) : EX X e (fC d) := PE.imp h fun σ H Q ⟨F, τ, θ, ρ, r', ρ', s, e, q⟩ => by
  cases e
  exact q F H w (s.push (r F H)) trivial
theorem eInt {i : Int} {j pos} : EX X (.Constant (.int i) j pos) (fC (.int i)) := eC pe_int fun _ _ => .int i
theorem eBl {i : Bool} {j pos} : EX X (.Constant (.bool i) j pos) (fC (.bl i)) := eC pe_bl fun _ _ => .bl i
theorem eNon {j pos} : EX X (.Constant .none j pos) (fC .non) := eC pe_non fun _ _ => .non
theorem eStr {i : Str} {j pos} : EX X (.Constant (.str i) j pos) (fC (.str i)) := eC pe_str fun _ _ => .str i
theorem eVar {e : Expr} {i : Nat} (h : PE X e (tVar i)) : EX X e (fV i) := PE.imp h fun σ H Q ⟨F, τ, θ, ρ, r', ρ', s, e, q⟩ => by
  unfold fV at e
  split at e
  · rename_i d hd
    cases e
    obtain ⟨v, c, h1, h2, h3⟩ := s.get hd
    cases h2 with
    | fz r => exact ⟨v, h1, q F H v (s.push r) trivial⟩
  · rename_i l hd
    cases e
    obtain ⟨v, c, h1, h2, h3⟩ := s.get hd
    exact ⟨v, h1, q F H v (s.pushN _) h1⟩
  · rename_i l1 l2 hd
    cases e
    obtain ⟨v, c, h1, h2, h3⟩ := s.get hd
    exact ⟨v, h1, q F H v (s.pushN _) h1⟩
  · cases e

/-! #### frozen or moved: no step of the program -/
def fFz (f : FE) : FE := fun ρ => match f ρ with
  | some (.vl m, ρ') => some (.vl (.fz m.frz), ρ')
  | some (.al i, ρ') => match ρ'[i]? with
    | some (some m) => some (.vl (.fz m.frz), ρ'.set i (some (.fz m.frz)))
    | _ => none
  | none => none
def fMv (f : FE) : FE := fun ρ => match f ρ with
  | some (.vl m, ρ') => some (.vl m, ρ')
  | some (.al i, ρ') => match ρ'[i]? with
    | some (some m) => some (.vl m, ρ'.set i none)
    | _ => none
  | none => none
theorem eFz {e : Expr} {f : FE} (h : EX X e f) : EX X e (fFz f) := PE.imp h fun σ H Q ⟨F, τ, θ, ρ, r', ρ', s, e, q⟩ => by
  unfold fFz at e
  split at e
  · rename_i m ρ1 he
    cases e
    refine ⟨F, τ, θ, ρ, .vl m, _, s, he, fun F' H' v s' _ => ?_⟩
    obtain ⟨F2, s2⟩ := SR.frzTop (m := m) s'
    exact q F2 H' v s2 trivial
  · rename_i i ρ1 he
    split at e
    · rename_i m hm
      cases e
      refine ⟨F, τ, θ, ρ, .al i, ρ1, s, he, fun F' H' v s' o => ?_⟩
      obtain ⟨F2, s2⟩ := s'.frzSlot hm
      have hi : i < ρ1.length := (List.getElem?_eq_some_iff.mp hm).1
      obtain ⟨w, c, h1, h2, h3⟩ := s2.get (i := i) (m := .fz m.frz) (by rw [List.getElem?_set_self hi])
      have o' : σ[i]? = some (some v) := o
      rw [o'] at h1; cases h1
      cases h2 with
      | fz r => exact q F2 H' v (s2.pop.push r) trivial
    · cases e
  · cases e
theorem eMv {e : Expr} {f : FE} (h : EX X e f) : EX X e (fMv f) := PE.imp h fun σ H Q ⟨F, τ, θ, ρ, r', ρ', s, e, q⟩ => by
  unfold fMv at e
  split at e
  · rename_i m ρ1 he
    cases e
    exact ⟨F, τ, θ, ρ, .vl m, _, s, he, fun F' H' v s' o => q F' H' v s' o⟩
  · rename_i i ρ1 he
    split at e
    · rename_i m hm
      cases e
      refine ⟨F, τ, θ, ρ, .al i, ρ1, s, he, fun F' H' v s' o => ?_⟩
      obtain ⟨w, h1, s2⟩ := s'.pop.move hm
      have o' : σ[i]? = some (some v) := o
      rw [o'] at h1; cases h1
      exact q F' H' v s2 trivial
    · cases e
  · cases e

/-! #### operations of two -/
def Bin (K : PySem.W.Frag) (r : R2) (sem : M → M → Option O) : Prop :=
  ∀ F H v1 m1 v2 m2 o Q, RMok K F H v1 m1 → RMok K F H v2 m2 → sem m1 m2 = some o → Res K F H o Q → r v1 v2 H Q
def fBin (sem : M → M → Option O) (fa fb : FE) : FE := fun ρ => (fa ρ).bind fun a => (fb a.2).bind fun b => (a.1.look b.2).bind fun m1 => (b.1.look b.2).bind fun m2 => (sem m1 m2).map fun o => (.vl o.m, b.2)
theorem bin_run {r : R2} {sem : M → M → Option O} {fa fb : FE} (hs : Bin K r sem) {Q : VK} (h : tE K (fBin sem fa fb) σ H Q) : tOp r (tE K fa) (tE K fb) σ H Q := by
  obtain ⟨F, τ, θ, ρ, r', ρ', s, e, q⟩ := h
  unfold fBin at e
  simp only [Option.bind_eq_some_iff, Option.map_eq_some_iff] at e
  obtain ⟨⟨r1, ρ1⟩, e1, ⟨r2, ρ2⟩, e2, m1, e3, m2, e4, o, e5, e6⟩ := e
  cases e6
  refine ⟨F, τ, θ, ρ, r1, ρ1, s, e1, fun F1 H1 v1 s1 o1 => ?_⟩
  refine ⟨F1, _, _, ρ1, r2, ρ2, s1, e2, fun F2 H2 v2 s2 o2 => ?_⟩
  refine hs F2 H2 v1 m1 v2 m2 o Q (s2.under.look o1 e3) (s2.look o2 e4) e5 ?_
  exact s2.pop.pop.res fun F' H' v s' => q F' H' v s' trivial
theorem eOp {op : Operator} {r : R2} {sem : M → M → Option O} {a b : Expr} {fa fb : FE} {pos : Pos} (ho : OpR X (binaryOp op) r) (hs : Bin X.K r sem) (ha : EX X a fa) (hb : EX X b fb) : EX X (.BinOp a op b pos) (fBin sem fa fb) :=
  PE.imp (pe_op ho ha hb) fun _ _ _ h => bin_run hs h
theorem eCmp {op : CmpOp} {r : R2} {sem : M → M → Option O} {a b : Expr} {fa fb : FE} {pos : Pos} (ho : OpR X (compareOp op) r) (hs : Bin X.K r sem) (ha : EX X a fa) (hb : EX X b fb) (hm : behindInMarks op b = false) : EX X (.Compare a [op] [b] pos) (fBin sem fa fb) :=
  PE.imp (pe_cmpR ho ha hb hm) fun _ _ _ h => bin_run hs h
theorem eIx {r : R2} {sem : M → M → Option O} {a b : Expr} {fa fb : FE} {pos : Pos} (ho : IxR X r) (hs : Bin X.K r sem) (ha : EX X a fa) (hb : EX X b fb) (hm : PlainIx b) : EX X (.Subscript a b pos) (fBin sem fa fb) :=
  PE.imp (pe_ix ho ha hb hm) fun _ _ _ h => bin_run hs h
/-! a comparison as a test -/
def fTst (f : FE) : FT := fun ρ => match f ρ with
  | some (.vl (.fz (.bl b)), ρ') => some (b, ρ')
  | _ => none
theorem tst_run {f : FE} {Q : Bool → Hp → Prop} (h : tT K (fTst f) σ H Q) : tTest (tE K f) σ H Q := by
  obtain ⟨F, τ, θ, ρ, b, ρ', s, e, q⟩ := h
  unfold fTst at e
  split at e
  · rename_i b' ρ1 he
    cases e
    refine ⟨F, τ, θ, ρ, _, _, s, he, fun F' H' v s' _ => ?_⟩
    have k := s'.look (r := .vl (.fz (.bl _))) (m := .fz (.bl _)) trivial rfl
    obtain ⟨c, k, _⟩ := k
    cases k with
    | fz k => cases k; exact ⟨_, rfl, q F' H' s'.pop⟩
  · cases e
theorem tB_run {f : FE} {Q : Bool → Hp → Prop} (h : tT K (fTst f) σ H Q) : tB (tE K f) σ H Q := tst_run h
theorem tCmpX {op : CmpOp} {r : R2} {sem : M → M → Option O} {a b : Expr} {fa fb : FE} {pos : Pos} (ho : OpR X (compareOp op) r) (hs : Bin X.K r sem) (ha : EX X a fa) (hb : EX X b fb) (hm : behindInMarks op b = false) : TX X (.Compare a [op] [b] pos) (fTst (fBin sem fa fb)) :=
  PT.imp (pt_cmpR ho ha hb hm) fun σ H Q h => by
    obtain ⟨F, τ, θ, ρ, b, ρ', s, e, q⟩ := tst_run h
    exact bin_run hs ⟨F, τ, θ, ρ, b, ρ', s, e, q⟩
theorem tVal {e : Expr} {f : FE} (h : EX X e f) (he : ∀ whole, isTrue e X.env whole = (do let v ← whole; standAt e.pos; holding [v] (truthy v)) := by intro _; rfl) : TX X e (fTst f) :=
  PT.imp (pt_val h he) fun σ H Q h => tB_run h
end
end Dv

set_option Elab.async false
set_option linter.all false
set_option maxRecDepth 100000
set_option maxHeartbeats 4000000
namespace Dv
open PySem PySem.Spec PyProof.Rows L2

section
variable {X : Cx} {K : PySem.W.Frag} {F F' : Addr → Prop} {H H' : Hp} {τ : List (Option V)} {θ : List (Option M)} {σ : List (Option V)} {ρ : List (Option M)}

/-! ### argument lists -/
theorem ROs.mid : ∀ {os : List (Option V)} {ms : List (Option M)} {o : Option V} {m : Option M} {os' : List (Option V)} {ms' : List (Option M)} {c : Cn}, os.length = ms.length → ROs K F H (os ++ o :: os') (ms ++ m :: ms') c → ROs K F H (o :: (os ++ os')) (m :: (ms ++ ms')) c := by
  intro os ms o m os' ms' c hl r
  obtain ⟨d, e, h1, h2, h3⟩ := ROs.split hl r
  cases h2 with
  | skip h2 => exact .skip ((h1.app h2).cast fun x => by unfold add; have := h3 x; omega)
  | @cons v m1 _ _ c1 c2 r1 h2 => exact (ROs.cons r1 (h1.app h2)).cast fun x => by have := h3 x; unfold add at this ⊢; omega
theorem SR.mid {os : List (Option V)} {ms : List (Option M)} {o : Option V} {m : Option M} (s : SR K F H (os ++ o :: τ) (ms ++ m :: θ) σ ρ) (hl : os.length = ms.length) : SR K F H (o :: (os ++ τ)) (m :: (ms ++ θ)) σ ρ :=
  let ⟨⟨_, d, r1, r2, n⟩, fd⟩ := s; ⟨⟨_, d, ROs.mid hl r1, r2, n⟩, fd⟩
theorem ROs.unmid : ∀ {os : List (Option V)} {ms : List (Option M)} {o : Option V} {m : Option M} {os' : List (Option V)} {ms' : List (Option M)} {c : Cn}, os.length = ms.length → ROs K F H (o :: (os ++ os')) (m :: (ms ++ ms')) c → ROs K F H (os ++ o :: os') (ms ++ m :: ms') c := by
  intro os ms o m os' ms' c hl r
  cases r with
  | skip r =>
    obtain ⟨d, e, h1, h2, h3⟩ := ROs.split hl r
    exact (h1.app (.skip h2)).cast fun x => by unfold add; have := h3 x; omega
  | cons r1 r =>
    obtain ⟨d, e, h1, h2, h3⟩ := ROs.split hl r
    exact (h1.app (.cons r1 h2)).cast fun x => by unfold add; have := h3 x; omega
theorem SR.unmid {os : List (Option V)} {ms : List (Option M)} {o : Option V} {m : Option M} (s : SR K F H (o :: (os ++ τ)) (m :: (ms ++ θ)) σ ρ) (hl : os.length = ms.length) : SR K F H (os ++ o :: τ) (ms ++ m :: θ) σ ρ :=
  let ⟨⟨_, d, r1, r2, n⟩, fd⟩ := s; ⟨⟨_, d, ROs.unmid hl r1, r2, n⟩, fd⟩
theorem SR.popn : ∀ {os : List (Option V)} {ms : List (Option M)}, os.length = ms.length → SR K F H (os ++ τ) (ms ++ θ) σ ρ → SR K F H τ θ σ ρ := by
  intro os
  induction os with
  | nil =>
    intro ms hl s
    cases ms with
    | nil => exact s
    | cons _ _ => simp at hl
  | cons o os ih =>
    intro ms hl s
    cases ms with
    | nil => simp at hl
    | cons m ms => exact ih (by simpa using hl) (SR.pop s)
theorem Oks.len : ∀ {vs : List V} {rs : List R}, Oks σ vs rs → vs.length = rs.length
  | _, _, .nil => rfl
  | _, _, .cons _ q => by simp [Oks.len q]
theorem Oks.len' {vs : List V} {rs : List R} (o : Oks σ vs rs) : (vs.map some).length = (rs.map R.own).length := by simp [o.len]
def fNil : FA := fun ρ => some ([], ρ)
def fCons (fa : FE) (fr : FA) : FA := fun ρ => (fa ρ).bind fun a => (fr a.2).bind fun b => some (a.1 :: b.1, b.2)
theorem aNil : AX X [] fNil := PA.imp pa_nil fun σ H Q ⟨F, τ, θ, ρ, rs, ρ', s, e, q⟩ => by
  cases e
  exact q F H [] s .nil
theorem aCons {e : Expr} {es : List Expr} {fa : FE} {fr : FA} (ha : EX X e fa) (hr : AX X es fr) (hs : starEach (e :: es) X.env = (false, eval e X.env) :: starEach es X.env := by rfl) : AX X (e :: es) (fCons fa fr) := PA.imp (pa_cons ha hr hs) fun σ H Q ⟨F, τ, θ, ρ, rs, ρ', s, e, q⟩ => by
  unfold fCons at e
  simp only [Option.bind_eq_some_iff] at e
  obtain ⟨⟨r1, ρ1⟩, e1, ⟨rs2, ρ2⟩, e2, e3⟩ := e
  cases e3
  refine ⟨F, τ, θ, ρ, r1, ρ1, s, e1, fun F1 H1 v1 s1 o1 => ?_⟩
  refine ⟨F1, _, _, ρ1, rs2, ρ2, s1, e2, fun F2 H2 vs s2 o2 => ?_⟩
  exact q F2 H2 (v1 :: vs) (s2.mid o2.len') (.cons o1 o2)

/-- the data of operands, to be read -/
def looks (ρ : Ev) : List R → Option (List M)
  | [] => some []
  | r :: rs => (r.look ρ).bind fun m => (looks ρ rs).map fun ms => m :: ms
inductive RMoks (K : PySem.W.Frag) (F : Addr → Prop) (H : Hp) : List V → List M → Prop
  | nil : RMoks K F H [] []
  | cons {v : V} {m : M} {vs : List V} {ms : List M} : RMok K F H v m → RMoks K F H vs ms → RMoks K F H (v :: vs) (m :: ms)
theorem SR.looks : ∀ {vs : List V} {rs : List R} {ms : List M}, Oks σ vs rs → SR K F H (vs.map some ++ τ) (rs.map R.own ++ θ) σ ρ → looks ρ rs = some ms → RMoks K F H vs ms
  | _, _, _, .nil, s, e => by cases e; exact .nil
  | _, _, _, .cons (v := v) (r := r) (vs := vs) (rs := rs) o os, s, e => by
    unfold Dv.looks at e
    simp only [Option.bind_eq_some_iff, Option.map_eq_some_iff] at e
    obtain ⟨m, e1, ms, e2, e3⟩ := e
    subst e3
    refine .cons (SR.look s o e1) (SR.looks os (SR.pop s) e2)
/-- operands that are owned at hand -/
def owns : List R → Option (List M)
  | [] => some []
  | .vl m :: rs => (owns rs).map fun ms => m :: ms
  | .al _ :: _ => none
theorem owns_some : ∀ {rs : List R} {ms : List M}, owns rs = some ms → rs.map R.own = ms.map some
  | [], _, e => by cases e; rfl
  | .vl m :: rs, _, e => by
    unfold owns at e
    simp only [Option.map_eq_some_iff] at e
    obtain ⟨ms, e1, e2⟩ := e
    subst e2
    simp only [List.map_cons, owns_some e1]
    rfl
  | .al _ :: _, _, e => by cases e
theorem ROs.rms : ∀ {vs : List V} {ms : List M} {c : Cn}, ROs K F H (vs.map some) (ms.map some) c → RMs K F H vs ms c
  | [], [], _, .nil => .nil
  | _ :: _, _ :: _, _, .cons r q => .cons r (ROs.rms q)
  | [], _ :: _, _, r => by cases r
  | _ :: _, [], _, r => by cases r
theorem RMs.ros : ∀ {vs : List V} {ms : List M} {c : Cn}, RMs K F H vs ms c → ROs K F H (vs.map some) (ms.map some) c
  | _, _, _, .nil => .nil
  | _, _, _, .cons r q => .cons r (RMs.ros q)

/-! ### calls of built-ins -/
def CSem (K : PySem.W.Frag) (r : List V → Hp → VK → Prop) (sem : List M → Option O) : Prop :=
  ∀ F H vs ms o Q, RMoks K F H vs ms → sem ms = some o → Res K F H o Q → r vs H Q
def fCall (sem : List M → Option O) (fa : FA) : FE := fun ρ => (fa ρ).bind fun a => (looks a.2 a.1).bind fun ms => (sem ms).map fun o => (.vl o.m, a.2)
theorem call_run {r : List V → Hp → VK → Prop} {sem : List M → Option O} {fa : FA} (hs : CSem K r sem) {Q : VK} (h : tE K (fCall sem fa) σ H Q) : tCB r (tA K fa) σ H Q := by
  obtain ⟨F, τ, θ, ρ, r', ρ', s, e, q⟩ := h
  unfold fCall at e
  simp only [Option.bind_eq_some_iff, Option.map_eq_some_iff] at e
  obtain ⟨⟨rs, ρ1⟩, e1, ms, e2, o, e3, e4⟩ := e
  cases e4
  refine ⟨F, τ, θ, ρ, rs, ρ1, s, e1, fun F1 H1 vs s1 o1 => ?_⟩
  refine hs F1 H1 vs ms o Q (s1.looks o1 e2) e3 ?_
  exact (SR.popn o1.len' s1).res fun F' H' v s' => q F' H' v s' trivial
theorem eCallB {x : Str} {p pos : Pos} {e : Expr} {es : List Expr} {id : String} {r : List V → Hp → VK → Prop} {sem : List M → Option O} {fa : FA} (hc : CallR X (.builtin id) r) (hs : CSem X.K r sem) (hg : Gl X x) (hm : X.mg x = none) (hv : bootBuiltins x = some (.builtin id)) (ha : AX X (e :: es) fa)
    (hn : x ≠ "__name__" := by decide) (hdb : (x == ("__debug__" : Str)) = false := by decide)
    (hse : starEach (e :: es) X.env = (false, eval e X.env) :: starEach es X.env := by rfl) (hpl : (backTo pos (starEach es X.env)).any (·.1) = false := by rfl) : EX X (.Call (.Name x p) (e :: es) [] pos) (fCall sem fa) :=
  PE.imp (pe_callB hc hg hm hv ha hn hdb hse hpl) fun _ _ _ h => call_run hs h
theorem eCallT {x : Str} {p pos : Pos} {e : Expr} {es : List Expr} {id : String} {r : List V → Hp → VK → Prop} {sem : List M → Option O} {fa : FA} (hc : CallR X (.type id) r) (hs : CSem X.K r sem) (hg : Gl X x) (hm : X.mg x = none) (hv : bootBuiltins x = some (.type id)) (ha : AX X (e :: es) fa)
    (hn : x ≠ "__name__" := by decide) (hdb : (x == ("__debug__" : Str)) = false := by decide)
    (hse : starEach (e :: es) X.env = (false, eval e X.env) :: starEach es X.env := by rfl) (hpl : (backTo pos (starEach es X.env)).any (·.1) = false := by rfl) : EX X (.Call (.Name x p) (e :: es) [] pos) (fCall sem fa) :=
  PE.imp (pe_callTy hc hg hm hv ha hn hdb hse hpl) fun _ _ _ h => call_run hs h

/-! ### displays -/
def allFz : List R → Option (List D)
  | [] => some []
  | .vl (.fz d) :: rs => (allFz rs).map fun ds => d :: ds
  | _ => none
def fTup (fa : FA) : FE := fun ρ => (fa ρ).bind fun a => (allFz a.1).bind fun ds => if ds.length ≤ 1000 then some (.vl (.fz (.tup ds)), a.2) else none
def fLst (fa : FA) : FE := fun ρ => (fa ρ).bind fun a => (owns a.1).bind fun ms => if ms.length ≤ 1000 then some (.vl (.ow ms), a.2) else none
theorem allFz_some : ∀ {rs : List R} {ds : List D}, allFz rs = some ds → rs = ds.map fun d => .vl (.fz d)
  | [], _, e => by cases e; rfl
  | .vl (.fz d) :: rs, _, e => by
    unfold allFz at e
    simp only [Option.map_eq_some_iff] at e
    obtain ⟨ms, e1, e2⟩ := e
    subst e2
    rw [allFz_some e1]
    rfl
  | .vl (.ow _) :: _, _, e => by cases e
  | .al _ :: _, _, e => by cases e
theorem k1000 {n : Nat} (h : n ≤ 1000) : n ≤ sizeLine := Nat.le_of_lt (small1000 h)
theorem eTup {es : List Expr} {fa : FA} {k : Nat} {pos : Pos} (h : AX X es fa) : EX X (.Tuple es k pos) (fTup fa) := PE.imp (pe_tup h) fun σ H Q ⟨F, τ, θ, ρ, r', ρ', s, e, q⟩ => by
  unfold fTup at e
  simp only [Option.bind_eq_some_iff] at e
  obtain ⟨⟨rs, ρ1⟩, e1, ds, e2, e3⟩ := e
  split at e3
  · rename_i hz
    cases e3
    refine ⟨F, τ, θ, ρ, rs, ρ1, s, e1, fun F1 H1 vs s1 o1 => ?_⟩
    have hl := o1.len
    have e4 := allFz_some e2
    subst e4
    simp only [List.length_map] at hl
    refine ⟨by rw [hl]; exact k1000 hz, fun p hp => ?_⟩
    have s2 := s1
    obtain ⟨⟨c, d, r1, r2, n⟩, fd⟩ := s2
    have o3 := o1.len'
    obtain ⟨d1, e1', h1, h2, h3⟩ := ROs.split o3 r1
    have h4 : RMs X.K F1 H1 vs (ds.map M.fz) d1 := by
      refine ROs.rms ?_
      have : (ds.map fun d => R.vl (.fz d)).map R.own = (ds.map M.fz).map some := by
        rw [List.map_map, List.map_map]; rfl
      rw [← this]; exact h1
    have h5 := (RMs.unfz h4).1
    exact q F1 _ _ (((SR.popn o3 s1).new hp).push (.tup (.inl (.inl upd_same)) (h5.grow (Grow.new hp)))) trivial
  · cases e3
theorem eLst {es : List Expr} {fa : FA} {pos : Pos} (h : AX X es fa) : EX X (.List es pos) (fLst fa) := PE.imp (pe_lst h) fun σ H Q ⟨F, τ, θ, ρ, r', ρ', s, e, q⟩ => by
  unfold fLst at e
  simp only [Option.bind_eq_some_iff] at e
  obtain ⟨⟨rs, ρ1⟩, e1, ms, e2, e3⟩ := e
  split at e3
  · rename_i hz
    cases e3
    refine ⟨F, τ, θ, ρ, rs, ρ1, s, e1, fun F1 H1 vs s1 o1 => ?_⟩
    have hl := o1.len
    have e4 := owns_some e2
    have hl2 : rs.length = ms.length := by have := congrArg List.length e4; simpa using this
    refine ⟨by rw [hl, hl2]; exact k1000 hz, fun p hp => ?_⟩
    obtain ⟨⟨c, d, r1, r2, n⟩, fd⟩ := s1
    have o3 := o1.len'
    obtain ⟨d1, e1', h1, h2, h3⟩ := ROs.split o3 r1
    rw [e4] at h1
    exact q F1 _ _ (SR.newMut (ROs.rms h1) h2 r2 (fun x => by have := n x; have := h3 x; exact ⟨by omega, fun f => by have := (n x).2 f; omega⟩) fd hp) trivial
  · cases e3

/-! ### tests -/
abbrev WX (X : Cx) (e : Expr) (f : FT) : Prop := PW X e (tT X.K f)
theorem PW.imp {X : Cx} {e : Expr} {t u : TT} (h : PW X e t) (i : ∀ σ H Q, u σ H Q → t σ H Q) : PW X e u := ⟨fun wh pins s σ H Q I q => h.run wh pins s σ H Q I (i σ H Q q)⟩
def fAnd (f g : FT) : FT := fun ρ => (f ρ).bind fun a => if a.1 then g a.2 else some (false, a.2)
def fOr (f g : FT) : FT := fun ρ => (f ρ).bind fun a => if a.1 then some (true, a.2) else g a.2
def fNot (f : FT) : FT := fun ρ => (f ρ).map fun a => (!a.1, a.2)
variable {a b : Expr} {rest : List Expr} {f g : FT} {pos : Pos}
theorem wAnd1 (h : TX X a f) : WX X (.BoolOp .And [a] pos) f := pw_and1 h
theorem wOr1 (h : TX X a f) : WX X (.BoolOp .Or [a] pos) f := pw_or1 h
theorem wAnd (ha : TX X a f) (hb : WX X (.BoolOp .And (b :: rest) pos) g) : WX X (.BoolOp .And (a :: b :: rest) pos) (fAnd f g) := PW.imp (pw_and ha hb) fun σ H Q ⟨F, τ, θ, ρ, c, ρ', s, e, q⟩ => by
  unfold fAnd at e
  simp only [Option.bind_eq_some_iff] at e
  obtain ⟨⟨c1, ρ1⟩, e1, e2⟩ := e
  refine ⟨F, τ, θ, ρ, c1, ρ1, s, e1, fun F1 H1 s1 => ?_⟩
  cases c1 with
  | true => exact ⟨F1, τ, θ, ρ1, c, ρ', s1, e2, q⟩
  | false => cases e2; exact q F1 H1 s1
theorem wOr (ha : TX X a f) (hb : WX X (.BoolOp .Or (b :: rest) pos) g) : WX X (.BoolOp .Or (a :: b :: rest) pos) (fOr f g) := PW.imp (pw_or ha hb) fun σ H Q ⟨F, τ, θ, ρ, c, ρ', s, e, q⟩ => by
  unfold fOr at e
  simp only [Option.bind_eq_some_iff] at e
  obtain ⟨⟨c1, ρ1⟩, e1, e2⟩ := e
  refine ⟨F, τ, θ, ρ, c1, ρ1, s, e1, fun F1 H1 s1 => ?_⟩
  cases c1 with
  | true => cases e2; exact q F1 H1 s1
  | false => exact ⟨F1, τ, θ, ρ1, c, ρ', s1, e2, q⟩
theorem tNotX (h : TX X a f) : TX X (.UnaryOp .Not a pos) (fNot f) := PT.imp (pt_not h) fun σ H Q ⟨F, τ, θ, ρ, c, ρ', s, e, q⟩ => by
  unfold fNot at e
  simp only [Option.map_eq_some_iff] at e
  obtain ⟨⟨c1, ρ1⟩, e1, e2⟩ := e
  cases e2
  exact ⟨F, τ, θ, ρ, c1, ρ1, s, e1, q⟩
/-- truth of data -/
def tru : M → Option Bool
  | .fz .non => some false
  | .fz (.bl b) => some b
  | .fz (.int i) => some (i != 0)
  | .fz (.tup l) => some (!l.isEmpty)
  | .fz (.lst l) => some (!l.isEmpty)
  | .fz (.rol l) => some (!l.isEmpty)
  | .ow l => some (!l.isEmpty)
  | _ => none

def fTru (f : FE) : FT := fun ρ => (f ρ).bind fun a => (a.1.look a.2).bind fun m => (tru m).map fun b => (b, a.2)
/-! bools as values -/
def fAndV (f g : FE) : FE := fun ρ => match f ρ with
  | some (.vl (.fz (.bl true)), ρ') => g ρ'
  | some (.vl (.fz (.bl false)), ρ') => some (.vl (.fz (.bl false)), ρ')
  | _ => none
def fOrV (f g : FE) : FE := fun ρ => match f ρ with
  | some (.vl (.fz (.bl false)), ρ') => g ρ'
  | some (.vl (.fz (.bl true)), ρ') => some (.vl (.fz (.bl true)), ρ')
  | _ => none
def fNotV (f : FE) : FE := fun ρ => match f ρ with
  | some (.vl (.fz (.bl b)), ρ') => some (.vl (.fz (.bl (!b))), ρ')
  | _ => none
theorem SR.topBl {v : V} {c : Bool} (s : SR K F H (some v :: τ) (some (.fz (.bl c)) :: θ) σ ρ) : v = .bl c := by
  obtain ⟨c', k, _⟩ := s.look (r := .vl (.fz (.bl c))) (m := .fz (.bl c)) trivial rfl
  cases k with
  | fz k => cases k; rfl
variable {fa fb : FE}
theorem eOne {op : BoolOp} (h : EX X a fa) : EX X (.BoolOp op [a] pos) fa := pe_one h
theorem eAnd (ha : EX X a fa) (hb : EX X (.BoolOp .And (b :: rest) pos) fb) : EX X (.BoolOp .And (a :: b :: rest) pos) (fAndV fa fb) := PE.imp (pe_and ha hb) fun σ H Q ⟨F, τ, θ, ρ, c, ρ', s, e, q⟩ => by
  unfold fAndV at e
  split at e
  · rename_i ρ1 e1
    refine ⟨F, τ, θ, ρ, _, ρ1, s, e1, fun F1 H1 v s1 o1 => ⟨true, s1.topBl, iteT ⟨F1, τ, θ, ρ1, c, ρ', s1.pop, e, q⟩⟩⟩
  · rename_i ρ1 e1
    cases e
    refine ⟨F, τ, θ, ρ, _, _, s, e1, fun F1 H1 v s1 o1 => ⟨false, s1.topBl, iteF (q F1 H1 _ (s1.pop.push (.bl false)) trivial)⟩⟩
  · cases e
theorem eOr (ha : EX X a fa) (hb : EX X (.BoolOp .Or (b :: rest) pos) fb) : EX X (.BoolOp .Or (a :: b :: rest) pos) (fOrV fa fb) := PE.imp (pe_or ha hb) fun σ H Q ⟨F, τ, θ, ρ, c, ρ', s, e, q⟩ => by
  unfold fOrV at e
  split at e
  · rename_i ρ1 e1
    refine ⟨F, τ, θ, ρ, _, ρ1, s, e1, fun F1 H1 v s1 o1 => ⟨false, s1.topBl, iteF ⟨F1, τ, θ, ρ1, c, ρ', s1.pop, e, q⟩⟩⟩
  · rename_i ρ1 e1
    cases e
    refine ⟨F, τ, θ, ρ, _, _, s, e1, fun F1 H1 v s1 o1 => ⟨true, s1.topBl, iteT (q F1 H1 _ (s1.pop.push (.bl true)) trivial)⟩⟩
  · cases e
theorem eNot (ha : EX X a fa) : EX X (.UnaryOp .Not a pos) (fNotV fa) := PE.imp (pe_not ha) fun σ H Q ⟨F, τ, θ, ρ, c, ρ', s, e, q⟩ => by
  unfold fNotV at e
  split at e
  · rename_i b ρ1 e1
    cases e
    refine ⟨F, τ, θ, ρ, _, _, s, e1, fun F1 H1 v s1 o1 => ⟨b, s1.topBl, q F1 H1 _ (s1.pop.push (.bl _)) trivial⟩⟩
  · cases e
def fIf (ft : FT) (fa fb : FE) : FE := fun ρ => (ft ρ).bind fun c => if c.1 then fa c.2 else fb c.2
theorem eIf {c : Expr} (hc : TX X c f) (ha : EX X a fa) (hb : EX X b fb) : EX X (.IfExp c a b pos) (fIf f fa fb) := PE.imp (pe_ifExp hc ha hb) fun σ H Q ⟨F, τ, θ, ρ, r, ρ', s, e, q⟩ => by
  unfold fIf at e
  simp only [Option.bind_eq_some_iff] at e
  obtain ⟨⟨c1, ρ1⟩, e1, e2⟩ := e
  refine ⟨F, τ, θ, ρ, c1, ρ1, s, e1, fun F1 H1 s1 => ?_⟩
  cases c1 with
  | true => exact iteT ⟨F1, τ, θ, ρ1, r, ρ', s1, e2, q⟩
  | false => exact iteF ⟨F1, τ, θ, ρ1, r, ρ', s1, e2, q⟩
end
end Dv

set_option Elab.async false
set_option linter.all false
set_option maxRecDepth 100000
set_option maxHeartbeats 4000000
namespace Dv
open PySem PySem.Spec PyProof.Rows L2

section
variable {X : Cx} {K : PySem.W.Frag} {F F' : Addr → Prop} {H H' : Hp} {τ : List (Option V)} {θ : List (Option M)} {σ : List (Option V)} {ρ : List (Option M)}

theorem tru_ok {v : V} {m : M} {k : Bool} (r : RMok K F H v m) (h : tru m = some k) : TruV K v H k := by
  obtain ⟨c, r, _⟩ := r
  cases r with
  | fz r =>
    cases r with
    | non => cases h; rfl
    | bl b => cases h; rfl
    | int i => cases h; rfl
    | str x => cases h
    | tup q rs =>
      cases h
      have := rs.len
      exact .inr (.inl ⟨_, q, by cases rs <;> rfl⟩)
    | lst f q rs =>
      cases h
      exact .inl ⟨_, .inl (.inl q), by cases rs <;> rfl⟩
    | rol q rs =>
      cases h
      exact .inl ⟨_, q.sq, by cases rs <;> rfl⟩
    | dic => cases h
  | ow e rs =>
    cases h
    exact .inl ⟨_, .inl (.inl e), by cases rs <;> rfl⟩
  | dc => cases h
theorem tTru {e : Expr} {f : FE} (h : EX X e f) (he : ∀ whole, isTrue e X.env whole = (do let v ← whole; standAt e.pos; holding [v] (truthy v)) := by intro _; rfl) : TX X e (fTru f) :=
  PT.imp (pt_truth h he) fun σ H Q ⟨F, τ, θ, ρ, b, ρ', s, e, q⟩ => by
    unfold fTru at e
    simp only [Option.bind_eq_some_iff, Option.map_eq_some_iff] at e
    obtain ⟨⟨r1, ρ1⟩, e1, m, e2, k, e3, e4⟩ := e
    cases e4
    exact ⟨F, τ, θ, ρ, r1, ρ1, s, e1, fun F1 H1 v s1 o1 => ⟨b, tru_ok (s1.look o1 e2) e3, q F1 H1 s1.pop⟩⟩

/-! ### statements -/
inductive Out where
  | nx (ρ : Ev) | rt (m : M) (ρ : Ev) | bk (ρ : Ev) | ct (ρ : Ev)
abbrev FS := Ev → Option Out
abbrev FG := M → Ev → Option Ev
def Keep (C : Nat → Bool) (σ σ' : List (Option V)) : Prop := σ'.length = σ.length ∧ ∀ i, C i = true → σ'[i]? = σ[i]?
theorem Keep.refl {C : Nat → Bool} : Keep C σ σ := ⟨rfl, fun _ _ => rfl⟩
theorem Keep.trans {C : Nat → Bool} {σ1 σ2 σ3 : List (Option V)} (a : Keep C σ1 σ2) (b : Keep C σ2 σ3) : Keep C σ1 σ3 := ⟨b.1.trans a.1, fun i h => (b.2 i h).trans (a.2 i h)⟩
def Post (K : PySem.W.Frag) (C : Nat → Bool) (τ : List (Option V)) (θ : List (Option M)) (σ : List (Option V)) (D : Ends) : Out → Prop
  | .nx ρ' => ∀ F' H' σ', SR K F' H' τ θ σ' ρ' → Keep C σ σ' → D.nx σ' H'
  | .rt m ρ' => ∀ F' H' σ' v, SR K F' H' (some v :: τ) (some m :: θ) σ' ρ' → Keep C σ σ' → D.rt v H'
  | .bk ρ' => ∀ F' H' σ', SR K F' H' τ θ σ' ρ' → Keep C σ σ' → D.bk σ' H'
  | .ct ρ' => ∀ F' H' σ', SR K F' H' τ θ σ' ρ' → Keep C σ σ' → D.ct σ' H'
def tS (K : PySem.W.Frag) (C : Nat → Bool) (f : FS) : TS := fun D σ H => ∃ F τ θ ρ o, SR K F H τ θ σ ρ ∧ f ρ = some o ∧ Post K C τ θ σ D o
def tG (K : PySem.W.Frag) (C : Nat → Bool) (f : FG) : TG := fun v σ H Q => ∃ F τ θ m ρ ρ', SR K F H (some v :: τ) (some m :: θ) σ ρ ∧ f m ρ = some ρ' ∧ ∀ F' H' σ', SR K F' H' τ θ σ' ρ' → Keep C σ σ' → Q σ' H'
abbrev SX (X : Cx) (C : Nat → Bool) (st : Stmt) (f : FS) : Prop := PS X st (tS X.K C f)
abbrev BX (X : Cx) (C : Nat → Bool) (st : List Stmt) (f : FS) : Prop := PSs X st (tS X.K C f)
abbrev GX (X : Cx) (C : Nat → Bool) (e : Expr) (f : FG) : Prop := PG X e (tG X.K C f)
theorem PS.imp {X : Cx} {e : Stmt} {t u : TS} (h : PS X e t) (i : ∀ D σ H, u D σ H → t D σ H) : PS X e u := ⟨fun pins s σ H Q I q => h.run pins s σ H Q I (i Q σ H q)⟩
theorem PSs.imp {X : Cx} {e : List Stmt} {t u : TS} (h : PSs X e t) (i : ∀ D σ H, u D σ H → t D σ H) : PSs X e u := ⟨fun pins s σ H Q I q => h.run pins s σ H Q I (i Q σ H q)⟩
theorem PG.imp {X : Cx} {e : Expr} {t u : TG} (h : PG X e t) (i : ∀ v σ H Q, u v σ H Q → t v σ H Q) : PG X e u := ⟨fun pins s σ H v w Q I r q => h.run pins s σ H v w Q I r (i v σ H Q q)⟩

variable {C : Nat → Bool}
theorem Post.keep {D : Ends} {σ' : List (Option V)} (k : Keep C σ σ') : ∀ {o : Out}, Post K C τ θ σ D o → Post K C τ θ σ' D o
  | .nx _, p => fun F' H' s' h q => p F' H' s' h (k.trans q)
  | .rt _ _, p => fun F' H' s' v h q => p F' H' s' v h (k.trans q)
  | .bk _, p => fun F' H' s' h q => p F' H' s' h (k.trans q)
  | .ct _, p => fun F' H' s' h q => p F' H' s' h (k.trans q)
def oBind (o : Out) (g : FS) : Option Out := match o with
  | .nx ρ => g ρ
  | o => some o
def fSeq (f g : FS) : FS := fun ρ => (f ρ).bind fun o => oBind o g
def fPass : FS := fun ρ => some (.nx ρ)
theorem bNil : BX X C [] fPass := PSs.imp pss_nil fun D σ H ⟨F, τ, θ, ρ, o, s, e, p⟩ => by
  cases e
  exact p F H σ s .refl
theorem sPass {pos : Pos} : SX X C (.Pass pos) fPass := PS.imp ps_pass fun D σ H ⟨F, τ, θ, ρ, o, s, e, p⟩ => by
  cases e
  exact p F H σ s .refl
theorem bCons {st : Stmt} {rest : List Stmt} {f g : FS} (h1 : SX X C st f) (h2 : BX X C rest g) : BX X C (st :: rest) (fSeq f g) := PSs.imp (pss_cons h1 h2) fun D σ H ⟨F, τ, θ, ρ, o, s, e, p⟩ => by
  unfold fSeq at e
  simp only [Option.bind_eq_some_iff] at e
  obtain ⟨o1, e1, e2⟩ := e
  refine ⟨F, τ, θ, ρ, o1, s, e1, ?_⟩
  cases o1 with
  | nx ρ1 => exact fun F1 H1 σ1 s1 k1 => ⟨F1, τ, θ, ρ1, o, s1, e2, p.keep k1⟩
  | rt m ρ1 => cases e2; exact p
  | bk ρ1 => cases e2; exact p
  | ct ρ1 => cases e2; exact p
theorem bOne {st : Stmt} {f : FS} (h1 : SX X C st f) : BX X C [st] f := pss_one h1
/-- never reached -/
def fNever : FS := fun _ => none
theorem sNever {st : Stmt} : SX X C st fNever := PS.imp ps_never fun D σ H ⟨F, τ, θ, ρ, o, s, e, p⟩ => nomatch e
theorem bNever {st : List Stmt} : BX X C st fNever := PSs.imp pss_never fun D σ H ⟨F, τ, θ, ρ, o, s, e, p⟩ => nomatch e
def fBreak : FS := fun ρ => some (.bk ρ)
def fCont : FS := fun ρ => some (.ct ρ)
theorem sBreak {pos : Pos} : SX X C (.Break pos) fBreak := PS.imp ps_break fun D σ H ⟨F, τ, θ, ρ, o, s, e, p⟩ => by
  cases e
  exact p F H σ s .refl
theorem sCont {pos : Pos} : SX X C (.Continue pos) fCont := PS.imp ps_continue fun D σ H ⟨F, τ, θ, ρ, o, s, e, p⟩ => by
  cases e
  exact p F H σ s .refl
def fExpr (f : FE) : FS := fun ρ => (f ρ).map fun a => .nx a.2
theorem sExpr {e : Expr} {f : FE} {pos : Pos} (he : EX X e f) (hs : swapsWith e none pos.line X.env = pure false := by rfl) : SX X C (.Expr e pos) (fExpr f) := PS.imp (ps_expr he hs) fun D σ H ⟨F, τ, θ, ρ, o, s, e, p⟩ => by
  unfold fExpr at e
  simp only [Option.map_eq_some_iff] at e
  obtain ⟨⟨r, ρ1⟩, e1, e2⟩ := e
  subst e2
  exact ⟨F, τ, θ, ρ, r, ρ1, s, e1, fun F1 H1 v s1 o1 => p F1 H1 σ s1.pop .refl⟩
/-- a value that is its own -/
def fRet (f : FE) : FS := fun ρ => match f ρ with
  | some (.vl m, ρ') => some (.rt m ρ')
  | _ => none
theorem sRet {e : Expr} {f : FE} {pos : Pos} (he : EX X e f) : SX X C (.Return (some e) pos) (fRet f) := PS.imp (ps_ret he) fun D σ H ⟨F, τ, θ, ρ, o, s, e, p⟩ => by
  unfold fRet at e
  split at e
  · cases e
    rename_i m ρ1 e1
    exact ⟨F, τ, θ, ρ, .vl m, ρ1, s, e1, fun F1 H1 v s1 o1 => p F1 H1 σ v s1 .refl⟩
  · cases e
def fRetN : FS := fun ρ => some (.rt (.fz .non) ρ)
theorem sRetN {pos : Pos} : SX X C (.Return none pos) fRetN := PS.imp ps_retN fun D σ H ⟨F, τ, θ, ρ, o, s, e, p⟩ => by
  cases e
  exact p F H σ _ (s.push .non) .refl
def fIfS (c : FT) (f g : FS) : FS := fun ρ => (c ρ).bind fun a => if a.1 then f a.2 else g a.2
theorem sIf {c : Expr} {a b : List Stmt} {t : FT} {f g : FS} {pos : Pos} (hc : TX X c t) (ha : BX X C a f) (hb : BX X C b g) : SX X C (.If c a b pos) (fIfS t f g) := PS.imp (ps_if hc ha hb) fun D σ H ⟨F, τ, θ, ρ, o, s, e, p⟩ => by
  unfold fIfS at e
  simp only [Option.bind_eq_some_iff] at e
  obtain ⟨⟨c1, ρ1⟩, e1, e2⟩ := e
  refine ⟨F, τ, θ, ρ, c1, ρ1, s, e1, fun F1 H1 s1 => ?_⟩
  cases c1 with
  | true => exact iteT ⟨F1, τ, θ, ρ1, o, s1, e2, p⟩
  | false => exact iteF ⟨F1, τ, θ, ρ1, o, s1, e2, p⟩

/-! ### targets, assignments -/
theorem Keep.set {i : Nat} {v : Option V} (h : C i = false) : Keep C σ (σ.set i v) := ⟨List.length_set .., fun j hj => by
  by_cases e : i = j
  · subst e; rw [h] at hj; cases hj
  · rw [List.getElem?_set_ne e]⟩
def gN (C : Nat → Bool) (i : Nat) : FG := fun m ρ => if i < ρ.length ∧ C i = false then some (ρ.set i (some m)) else none
theorem gName' {e : Expr} {i : Nat} (h : PG X e (gName i)) : GX X C e (gN C i) := PG.imp h fun v σ H Q ⟨F, τ, θ, m, ρ, ρ', s, e, q⟩ => by
  unfold gN at e
  split at e
  · rename_i hc
    cases e
    exact q F H _ (s.store hc.1) (Keep.set hc.2)
  · cases e
def fAsg (f : FE) (g : FG) : FS := fun ρ => match f ρ with
  | some (.vl m, ρ') => (g m ρ').map .nx
  | _ => none
theorem asg_run {f : FE} {g : FG} {D : Ends} (h : tS K C (fAsg f g) D σ H) : tAsg (tE K f) (tG K C g) D σ H := by
  obtain ⟨F, τ, θ, ρ, o, s, e, p⟩ := h
  unfold fAsg at e
  split at e
  · rename_i m ρ1 e1
    simp only [Option.map_eq_some_iff] at e
    obtain ⟨ρ2, e2, e3⟩ := e
    subst e3
    exact ⟨F, τ, θ, ρ, .vl m, ρ1, s, e1, fun F1 H1 v s1 _ => ⟨F1, τ, θ, m, ρ1, ρ2, s1, e2, fun F2 H2 σ2 s2 k2 => p F2 H2 σ2 s2 k2⟩⟩
  · cases e
theorem sAsg {tg e : Expr} {f : FE} {g : FG} {pos : Pos} (he : EX X e f) (hg : GX X C tg g) (hs : swapsWithSole [tg] e pos.line X.env = pure false := by rfl) (hw : swappedStores [tg] e X.env = pure none := by rfl)
    (h1 : (assignEach [tg] X.env).map (·.2) = [assign tg X.env] := by rfl) : SX X C (.Assign [tg] e pos) (fAsg f g) := PS.imp (ps_asg he hg hs hw h1) fun _ _ _ h => asg_run h
theorem sSet {i : Nat} {x : Str} {e : Expr} {f : FE} {pos pos' : Pos} (hN : X.N.Nodup) (hi : X.N[i]? = some x) (hx : Loc X.env.scope x) (he : EX X e f) (hs : swapsWith e (some (.Name x pos')) pos.line X.env = pure false := by rfl)
    (hf : X.fn x = true ∨ X.env.scope.names.lookup x = some .local := by first | exact .inl rfl | exact .inr rfl | assumption) : SX X C (.Assign [.Name x pos'] e pos) (fAsg f (gN C i)) := PS.imp (ps_set hN hi hx he hs hf) fun D σ H h => by
  obtain ⟨F, τ, θ, ρ, o, s, e, p⟩ := h
  unfold fAsg at e
  split at e
  · rename_i m ρ1 e1
    simp only [Option.map_eq_some_iff] at e
    obtain ⟨ρ2, e2, e3⟩ := e
    subst e3
    refine ⟨F, τ, θ, ρ, .vl m, ρ1, s, e1, fun F1 H1 v s1 _ => ?_⟩
    unfold gN at e2
    split at e2
    · rename_i hc
      cases e2
      exact p F1 H1 _ (s1.store hc.1) (Keep.set hc.2)
    · cases e2
  · cases e
def gPar (C : Nat → Bool) (i j : Nat) (fa : FA) : FS := fun ρ => match fa ρ with
  | some ([.vl m, .vl m'], ρ') => if i < ρ'.length ∧ j < ρ'.length ∧ C i = false ∧ C j = false then some (.nx ((ρ'.set i (some m)).set j (some m'))) else none
  | _ => none
theorem sPar {i j : Nat} {x y : Str} {a b : Expr} {fa : FA} {px py pt pos : Pos} {kt k2 pt2} (hc : X.calm = true) (hN : X.N.Nodup) (hi : X.N[i]? = some x) (hj : X.N[j]? = some y) (hij : i ≠ j)
    (hx : X.env.scope.names.lookup x = some .local) (hy : X.env.scope.names.lookup y = some .local) (ha : AX X [a, b] fa)
    (hw : swappedStores [.Tuple [.Name x px, .Name y py] kt pt] (.Tuple [a, b] k2 pt2) X.env = pure (some [x, y]))
    (hs : swapsWithSole [.Tuple [.Name x px, .Name y py] kt pt] (.Tuple [a, b] k2 pt2) pos.line X.env = pure false := by rfl) :
    SX X C (.Assign [.Tuple [.Name x px, .Name y py] kt pt] (.Tuple [a, b] k2 pt2) pos) (gPar C i j fa) := PS.imp (ps_par hc hN hi hj hij hx hy ha hw hs) fun D σ H ⟨F, τ, θ, ρ, o, s, e, p⟩ => by
  unfold gPar at e
  split at e
  · rename_i m m' ρ1 e1
    split at e
    · rename_i h
      obtain ⟨h1, h2, h3, h4⟩ := h
      cases e
      refine ⟨F, τ, θ, ρ, _, _, s, e1, fun F1 H1 vs s1 os => ?_⟩
      cases os with
      | cons o1 os =>
        cases os with
        | cons o2 os =>
          cases os
          refine ⟨_, _, rfl, p F1 H1 _ (SR.store (SR.store s1 h1) (by rw [List.length_set]; exact h2)) ((Keep.set h3).trans (Keep.set h4))⟩
    · cases e
  · cases e

/-! ### while -/
def fWhile (c : FT) (body : FS) : Nat → FS
  | 0, _ => none
  | n + 1, ρ => (c ρ).bind fun a => if a.1 then (body a.2).bind fun o => match o with
      | .nx ρ2 => fWhile c body n ρ2
      | .ct ρ2 => fWhile c body n ρ2
      | .bk ρ2 => some (.nx ρ2)
      | .rt m ρ2 => some (.rt m ρ2)
    else some (.nx a.2)
theorem sWhile {c : Expr} {body : List Stmt} {t : FT} {f : FS} {pos : Pos} (n : Nat) (hp : PassesOwn (model X.prog X.w) X.A X.env X.xe) (hc : TX X c t) (hb : BX X C body f) : SX X C (.While c body [] pos) (fWhile t f n) := PS.imp (ps_while hp hc hb) fun D σ H ⟨F, τ, θ, ρ, o, s, e, p⟩ => by
  refine ⟨fun m σ1 H1 => ∃ F1 ρ1, SR X.K F1 H1 τ θ σ1 ρ1 ∧ fWhile t f m ρ1 = some o ∧ Keep C σ σ1, ⟨n, F, ρ, s, e, .refl⟩, ?_⟩
  rintro m σ1 H1 ⟨F1, ρ1, s1, e1, k1⟩
  cases m with
  | zero => cases e1
  | succ m =>
    unfold fWhile at e1
    simp only [Option.bind_eq_some_iff] at e1
    obtain ⟨⟨b, ρ2⟩, e2, e3⟩ := e1
    refine ⟨F1, τ, θ, ρ1, b, ρ2, s1, e2, fun F2 H2 s2 => ?_⟩
    cases b with
    | false => cases e3; exact iteF (p F2 H2 σ1 s2 k1)
    | true =>
      simp only [if_true, Option.bind_eq_some_iff] at e3
      obtain ⟨o1, e4, e5⟩ := e3
      refine iteT ⟨fun σ3 H3 => ∃ F3 ρ3, SR X.K F3 H3 τ θ σ3 ρ3 ∧ fWhile t f m ρ3 = some o ∧ Keep C σ σ3, fun σ3 H3 h3 => ⟨m, Nat.lt_succ_self m, h3⟩, F2, τ, θ, ρ2, o1, s2, e4, ?_⟩
      cases o1 with
      | nx ρ3 => exact fun F3 H3 σ3 s3 k3 => ⟨F3, ρ3, s3, e5, k1.trans k3⟩
      | ct ρ3 => exact fun F3 H3 σ3 s3 k3 => ⟨F3, ρ3, s3, e5, k1.trans k3⟩
      | bk ρ3 => cases e5; exact fun F3 H3 σ3 s3 k3 => p F3 H3 σ3 s3 (k1.trans k3)
      | rt m ρ3 => cases e5; exact fun F3 H3 σ3 v s3 k3 => p F3 H3 σ3 v s3 (k1.trans k3)

/-! ### what is walked -/
structure Wk (K : PySem.W.Frag) (J : It) (o : Option V) (m : Option M) (ds : List D) : Prop where
  go : ∀ F H τ θ σ ρ i d, SR K F H (o :: τ) (m :: θ) σ ρ → ds[i]? = some d → J.go i H ∧ ∀ x H', J.yld i H x H' → ∃ F', SR K F' H' (some x :: o :: τ) (some (.fz d) :: m :: θ) σ ρ
  stop : ∀ F H τ θ σ ρ i, SR K F H (o :: τ) (m :: θ) σ ρ → ds.length ≤ i → J.stop i H
abbrev FI := Ev → Option (List D × Ev)
def tI (K : PySem.W.Frag) (f : FI) : TI := fun σ H R => ∃ F τ θ ρ ds ρ', SR K F H τ θ σ ρ ∧ f ρ = some (ds, ρ') ∧ ∀ F' H' J o m, SR K F' H' (o :: τ) (m :: θ) σ ρ' → Wk K J o m ds → R J H'
abbrev IX (X : Cx) (tg e : Expr) (f : FI) : Prop := PI X tg e (tI X.K f)
theorem PI.imp {X : Cx} {tg e : Expr} {t u : TI} (h : PI X tg e t) (i : ∀ σ H R, u σ H R → t σ H R) : PI X tg e u := ⟨fun pins s σ H R I q => h.run pins s σ H R I (i σ H R q)⟩
theorem RDs.at : ∀ {vs : List V} {ds : List D}, RDs K F H vs ds → ∀ {i : Nat} {d : D}, ds[i]? = some d → ∃ v, vs[i]? = some v ∧ RD K F H v d
  | _, _, .nil, i, d, h => by simp at h
  | _, _, .cons r q, 0, d, h => by simp at h; subst h; exact ⟨_, rfl, r⟩
  | _, _, .cons r q, i + 1, d, h => RDs.at q (i := i) (by simpa using h)
/-- the top value's data -/
theorem SR.topD {o : Option V} {d : D} (s : SR K F H (o :: τ) (some (.fz d) :: θ) σ ρ) : ∃ v, o = some v ∧ RD K F H v d := by
  obtain ⟨⟨c, d, r1, r2, n⟩, fd⟩ := s
  cases r1 with
  | cons r _ => cases r with | fz r => exact ⟨_, rfl, r⟩
theorem wk_list {a : Addr} {d0 : D} {ds : List D} (h0 : d0 = .lst ds ∨ d0 = .rol ds) : Wk K (Itl K a) (some (.ref a)) (some (.fz d0)) ds where
  go := fun F H τ θ σ ρ i d s h => by
    obtain ⟨v, e, r⟩ := s.topD
    cases e
    have : ∃ xs, SqL K H a xs ∧ RDs K F H xs ds := by
      rcases h0 with rfl | rfl
      · cases r with
        | lst f q rs => exact ⟨_, .inl (.inl q), rs⟩
      · cases r with
        | rol q rs => exact ⟨_, q.sq, rs⟩
    obtain ⟨xs, q, rs⟩ := this
    obtain ⟨x, hx, rx⟩ := rs.at h
    refine ⟨⟨xs, x, q, hx⟩, fun y H' ⟨e, hy⟩ => ?_⟩
    subst e
    have := hy xs q
    rw [hx] at this; cases this
    exact ⟨F, s.push rx⟩
  stop := fun F H τ θ σ ρ i s h => by
    obtain ⟨v, e, r⟩ := s.topD
    cases e
    rcases h0 with rfl | rfl
    · cases r with
      | lst f q rs => exact ⟨_, .inl (.inl q), by rw [rs.len]; exact h⟩
    · cases r with
      | rol q rs => exact ⟨_, q.sq, by rw [rs.len]; exact h⟩
theorem wk_tup {a : Addr} {ds : List D} : Wk K (Itt K a) (some (.ref a)) (some (.fz (.tup ds))) ds where
  go := fun F H τ θ σ ρ i d s h => by
    obtain ⟨v, e, r⟩ := s.topD
    cases e
    cases r with
    | tup q rs =>
      obtain ⟨x, hx, rx⟩ := rs.at h
      refine ⟨⟨_, x, q, hx⟩, fun y H' ⟨e, hy⟩ => ?_⟩
      subst e
      have := hy _ q
      rw [hx] at this; cases this
      exact ⟨F, s.push rx⟩
  stop := fun F H τ θ σ ρ i s h => by
    obtain ⟨v, e, r⟩ := s.topD
    cases e
    cases r with
    | tup q rs => exact ⟨_, q, by rw [rs.len]; exact h⟩
def rgD (lo : Int) (n : Nat) : List D := (List.range n).map fun i => .int (lo + (i : Nat))
theorem rgD_len (lo : Int) (n : Nat) : (rgD lo n).length = n := by unfold rgD; simp
theorem wk_range {lo : Int} {n : Nat} {o : Option V} {m : Option M} : Wk K (Itr lo n) o m (rgD lo n) where
  go := fun F H τ θ σ ρ i d s h => by
    have hi : i < n := by have := (List.getElem?_eq_some_iff.mp h).1; rw [rgD_len] at this; exact this
    have hd : d = .int (lo + (i : Nat)) := by
      unfold rgD at h
      rw [List.getElem?_map, List.getElem?_range hi] at h
      exact (Option.some.inj h).symm
    subst hd
    exact ⟨hi, fun x H' ⟨e1, e2⟩ => by subst e1 e2; exact ⟨F, s.push (.int _)⟩⟩
  stop := fun F H τ θ σ ρ i s h => by rw [rgD_len] at h; exact h
/-- a list or a tuple -/
theorem pi_seq {tg l : Expr} {tl : TE} (hl : PE X l tl) : PI X tg l (fun σ H R => tl σ H fun x H1 => (∃ a, x = .ref a ∧ (∃ xs, SqL X.K H1 a xs) ∧ R (Itl X.K a) H1) ∨ (∃ a, x = .ref a ∧ (∃ xs, SqT X.K H1 a xs) ∧ R (Itt X.K a) H1)) := by
  refine ⟨fun pins s σ H R I h => ?_⟩
  refine thn (hl.run pins s σ H _ I h) fun v s1 ⟨x, H1, I1, r1, q1⟩ => ?_
  rcases q1 with ⟨a, e, ⟨xs, hq⟩, q⟩ | ⟨a, e, ⟨xs, hq⟩, q⟩
  · subst e
    cases r1
    obtain ⟨its, rv, p, hz⟩ := I1.list hq
    refine wpAny_pyIter_list p.isList ?_
    refine ⟨s1.heap.objs.size, [s1.heap.objs.size], _, _, H1, rfl, I1.kept (t' := s1.toks) fun b o e => Heap.get?_push_of_some _ e, turn_list a _, ⟨_, Heap.get?_push_size _ rfl, rfl, rfl⟩, fun b hb => ?_, q⟩
    have e : b = s1.heap.objs.size := by simpa using hb
    subst e
    exact I1.fpOk (Nat.le_refl _) (I1.hok.fresh (Nat.le_refl _))
  · subst e
    cases r1
    obtain ⟨its, rv, p, hz⟩ := I1.tuple hq
    refine wpAny_pyIter_tuple (show s1.heap.IsTuple a its.toArray from p) ?_
    refine ⟨s1.heap.objs.size, [s1.heap.objs.size], _, _, H1, rfl, I1.kept (t' := s1.toks) fun b o e => Heap.get?_push_of_some _ e, turn_tuple a _, ⟨_, Heap.get?_push_size _ rfl, rfl, rfl⟩, fun b hb => ?_, q⟩
    have e : b = s1.heap.objs.size := by simpa using hb
    subst e
    exact I1.fpOk (Nat.le_refl _) (I1.hok.fresh (Nat.le_refl _))
def seqOf : D → Option (List D)
  | .lst l => some l
  | .tup l => some l
  | .rol l => some l
  | _ => none
def fSeqI (f : FE) : FI := fun ρ => match f ρ with
  | some (.vl (.fz d), ρ') => (seqOf d).map fun ds => (ds, ρ')
  | _ => none
theorem iSeq {tg e : Expr} {f : FE} (h : EX X e f) : IX X tg e (fSeqI f) := PI.imp (pi_seq h) fun σ H R ⟨F, τ, θ, ρ, ds, ρ', s, e, q⟩ => by
  unfold fSeqI at e
  split at e
  · rename_i d ρ1 e1
    simp only [Option.map_eq_some_iff] at e
    obtain ⟨l, e2, e3⟩ := e
    cases e3
    refine ⟨F, τ, θ, ρ, _, _, s, e1, fun F1 H1 v s1 _ => ?_⟩
    obtain ⟨v', e4, r⟩ := SR.topD s1
    cases e4
    cases r with
    | lst f qq rs => cases e2; exact .inl ⟨_, rfl, ⟨_, .inl (.inl qq)⟩, q F1 H1 _ _ _ s1 (wk_list (.inl rfl))⟩
    | rol qq rs => cases e2; exact .inl ⟨_, rfl, ⟨_, qq.sq⟩, q F1 H1 _ _ _ s1 (wk_list (.inr rfl))⟩
    | tup qq rs => cases e2; exact .inr ⟨_, rfl, ⟨_, qq⟩, q F1 H1 _ _ _ s1 wk_tup⟩
    | _ => cases e2
  · cases e
def inR (j : Int) : Bool := decide (-4000000000 < j ∧ j < 4000000000)
def fRg1 (fa : FA) : FI := fun ρ => match fa ρ with
  | some ([.vl (.fz (.int j))], ρ') => if inR j then some (rgD 0 j.toNat, ρ') else none
  | _ => none
def fRg2 (fa : FA) : FI := fun ρ => match fa ρ with
  | some ([.vl (.fz (.int i)), .vl (.fz (.int j))], ρ') => if inR i && inR j then some (rgD i (j - i).toNat, ρ') else none
  | _ => none
theorem iRg1 {tg a : Expr} {fa : FA} {p pos : Pos} (hg : Gl X "range") (hm : X.mg "range" = none) (ha : AX X [a] fa) (hs : starEach [a] X.env = [(false, eval a X.env)] := by rfl) : IX X tg (.Call (.Name "range" p) [a] [] pos) (fRg1 fa) := PI.imp (pi_range1 hg hm ha hs) fun σ H R ⟨F, τ, θ, ρ, ds, ρ', s, e, q⟩ => by
  unfold fRg1 at e
  split at e
  · rename_i j ρ1 e1
    split at e
    · rename_i hj
      cases e
      unfold inR at hj
      simp only [decide_eq_true_eq] at hj
      refine ⟨F, τ, θ, ρ, _, _, s, e1, fun F1 H1 vs s1 os => ?_⟩
      cases os with
      | cons o1 os =>
        cases os
        obtain ⟨v', e4, r⟩ := SR.topD s1
        cases e4
        cases r
        exact ⟨j, rfl, by omega, by omega, q F1 H1 _ _ _ s1 wk_range⟩
    · cases e
  · cases e
theorem iRg2 {tg a b : Expr} {fa : FA} {p pos : Pos} (hg : Gl X "range") (hm : X.mg "range" = none) (ha : AX X [a, b] fa) (hs : starEach [a, b] X.env = [(false, eval a X.env), (false, eval b X.env)] := by rfl) (hs2 : starEach [b] X.env = [(false, eval b X.env)] := by rfl) :
    IX X tg (.Call (.Name "range" p) [a, b] [] pos) (fRg2 fa) := PI.imp (pi_range2 hg hm ha hs hs2) fun σ H R ⟨F, τ, θ, ρ, ds, ρ', s, e, q⟩ => by
  unfold fRg2 at e
  split at e
  · rename_i i j ρ1 e1
    split at e
    · rename_i hj
      cases e
      unfold inR at hj
      simp only [Bool.and_eq_true, decide_eq_true_eq] at hj
      refine ⟨F, τ, θ, ρ, _, _, s, e1, fun F1 H1 vs s1 os => ?_⟩
      cases os with
      | cons o1 os =>
        cases os with
        | cons o2 os =>
          cases os
          obtain ⟨v', e4, r⟩ := SR.topD s1
          cases e4
          cases r
          obtain ⟨v', e4, r⟩ := SR.topD (SR.pop s1)
          cases e4
          cases r
          exact ⟨i, j, rfl, by omega, q F1 H1 _ _ _ (SR.pop s1) wk_range⟩
    · cases e
  · cases e

/-! ### for -/
def fLoop (g : FG) (body : FS) : List D → FS
  | [], ρ => some (.nx ρ)
  | d :: ds, ρ => (g (.fz d) ρ).bind fun ρ1 => (body ρ1).bind fun o => match o with
      | .nx ρ2 => fLoop g body ds ρ2
      | .ct ρ2 => fLoop g body ds ρ2
      | .bk ρ2 => some (.nx ρ2)
      | .rt m ρ2 => some (.rt m ρ2)
def fFor (fi : FI) (g : FG) (body : FS) : FS := fun ρ => (fi ρ).bind fun a => fLoop g body a.1 a.2
theorem sFor {tg iter : Expr} {body : List Stmt} {fi : FI} {g : FG} {f : FS} {pos : Pos} (hp : PassesOwn (model X.prog X.w) X.A X.env X.xe) (hc : X.calm = true) (hi : IX X tg iter fi) (hg : GX X C tg g) (hb : BX X C body f)
    (hs : ∀ x, foldedSetIterable iter X.env x = pure x := by intro _; rfl) : SX X C (.For tg iter body [] pos) (fFor fi g f) := PS.imp (ps_for hp hc hi hg hb hs) fun D σ H ⟨F, τ, θ, ρ, o, s, e, p⟩ => by
  unfold fFor at e
  simp only [Option.bind_eq_some_iff] at e
  obtain ⟨⟨ds, ρ1⟩, e1, e2⟩ := e
  refine ⟨F, τ, θ, ρ, ds, ρ1, s, e1, fun F1 H1 J ov om s1 wk => ?_⟩
  refine ⟨fun i m σ2 H2 => m = ds.length - i ∧ i ≤ ds.length ∧ ∃ F2 ρ2, SR X.K F2 H2 (ov :: τ) (om :: θ) σ2 ρ2 ∧ fLoop g f (ds.drop i) ρ2 = some o ∧ Keep C σ σ2, ⟨ds.length, by simp, Nat.zero_le _, F1, ρ1, s1, by simpa using e2, .refl⟩, ?_⟩
  rintro i m σ2 H2 ⟨rfl, hi, F2, ρ2, s2, e3, k2⟩
  by_cases hlt : i < ds.length
  · have hd : ds[i]? = some ds[i] := List.getElem?_eq_getElem hlt
    obtain ⟨go, yl⟩ := wk.go F2 H2 τ θ σ2 ρ2 i _ s2 hd
    rw [List.drop_eq_getElem_cons hlt] at e3
    unfold fLoop at e3
    simp only [Option.bind_eq_some_iff] at e3
    obtain ⟨ρ3, e4, o1, e5, e6⟩ := e3
    refine .inr ⟨go, fun σ' H' => i + 1 ≤ ds.length ∧ ∃ F2 ρ2, SR X.K F2 H' (ov :: τ) (om :: θ) σ' ρ2 ∧ fLoop g f (ds.drop (i + 1)) ρ2 = some o ∧ Keep C σ σ', fun σ' H' h => ⟨ds.length - (i + 1), by omega, rfl, h.1, h.2⟩, fun x H3 y => ?_⟩
    obtain ⟨F3, s3⟩ := yl x H3 y
    refine ⟨F3, _, _, _, ρ2, ρ3, s3, e4, fun F4 H4 σ4 s4 k4 => ?_⟩
    refine ⟨F4, _, _, ρ3, o1, s4, e5, ?_⟩
    cases o1 with
    | nx ρ5 => exact fun F5 H5 σ5 s5 k5 => ⟨hlt, F5, ρ5, s5, e6, k2.trans (k4.trans k5)⟩
    | ct ρ5 => exact fun F5 H5 σ5 s5 k5 => ⟨hlt, F5, ρ5, s5, e6, k2.trans (k4.trans k5)⟩
    | bk ρ5 => cases e6; exact fun F5 H5 σ5 s5 k5 => p F5 H5 σ5 s5.pop (k2.trans (k4.trans k5))
    | rt m ρ5 => cases e6; exact fun F5 H5 σ5 v s5 k5 => p F5 H5 σ5 v s5.under.pop (k2.trans (k4.trans k5))
  · have e : i = ds.length := by omega
    subst e
    rw [List.drop_length] at e3
    cases e3
    exact .inl ⟨wk.stop F2 H2 τ θ σ2 ρ2 _ s2 (Nat.le_refl _), p F2 H2 σ2 s2.pop k2⟩
end
end Dv

set_option Elab.async false
set_option linter.all false
set_option maxRecDepth 100000
set_option maxHeartbeats 4000000
namespace Dv
open PySem PySem.Spec PyProof.Rows L2

section
variable {X : Cx} {K : PySem.W.Frag} {F F' : Addr → Prop} {H H' : Hp} {τ : List (Option V)} {θ : List (Option M)} {σ : List (Option V)} {ρ : List (Option M)} {C : Nat → Bool}

/-! ### methods that change a slot's list -/
theorem RMs.app : ∀ {vs : List V} {ms : List M} {c : Cn}, RMs K F H vs ms c → ∀ {vs' : List V} {ms' : List M} {d : Cn}, RMs K F H vs' ms' d → RMs K F H (vs ++ vs') (ms ++ ms') (add c d)
  | _, _, _, .nil, _, _, _, q => q.cast fun x => by unfold add c0; omega
  | _, _, _, .cons r t, _, _, _, q => (RMs.cons r (RMs.app t q)).cast fun x => by unfold add; omega
def MSem (K : PySem.W.Frag) (r : V → List V → Hp → VK → Prop) (sem : List M → List M → Option (List M × M)) : Prop :=
  ∀ F H a vs ms c xs as ca ms' res Q, H a = some (.lst vs) → RMs K F H vs ms c → RMs K F H xs as ca → (∀ x, one a x + c x + ca x ≤ 1) → (∀ x, F x → one a x + c x + ca x = 0) → sem ms as = some (ms', res) →
    (∀ vs' y c' cy, RMs K F H vs' ms' c' → RM K F H y res cy → (∀ x, c' x + cy x ≤ c x + ca x) → Q y (upd H a (.lst vs'))) → r (.ref a) xs H Q
/-- slot i is a list of its own -/
def isOw (ρ : Ev) (i : Nat) : Bool := match ρ[i]? with
  | some (some (.ow _)) => true
  | _ => false
def fMt (sem : List M → List M → Option (List M × M)) (fo : FE) (fa : FA) : FE := fun ρ => match fo ρ with
  | some (.al i, ρ1) => if isOw ρ1 i then (fa ρ1).bind fun a => (owns a.1).bind fun as => match a.2[i]? with
      | some (some (.ow ms)) => (sem ms as).map fun r => (.vl r.2, a.2.set i (some (.ow r.1)))
      | _ => none
    else none
  | _ => none
theorem RMs.grow' {a : Addr} {vs' xs : List V} {vs : List V} {ms : List M} {c : Cn} (h : H a = some (.lst xs)) (n : ¬ F a) (r : RMs K F H vs ms c) (z : c a = 0) : RMs K F (upd H a (.lst vs')) vs ms c :=
  r.grow (Grow.write h n) fun x hx => upd_ne (fun e => by rw [e, z] at hx; omega)
theorem RM.grow' {a : Addr} {vs' xs : List V} {vs : V} {ms : M} {c : Cn} (h : H a = some (.lst xs)) (n : ¬ F a) (r : RM K F H vs ms c) (z : c a = 0) : RM K F (upd H a (.lst vs')) vs ms c :=
  r.grow (Grow.write h n) fun x hx => upd_ne (fun e => by rw [e, z] at hx; omega)
theorem ROs.grow' {a : Addr} {vs' xs : List V} {vs : List (Option V)} {ms : List (Option M)} {c : Cn} (h : H a = some (.lst xs)) (n : ¬ F a) (r : ROs K F H vs ms c) (z : c a = 0) : ROs K F (upd H a (.lst vs')) vs ms c :=
  r.grow (Grow.write h n) fun x hx => upd_ne (fun e => by rw [e, z] at hx; omega)
theorem fd_upd {a : Addr} {o : HO} (fd : ∀ b, F b → H b ≠ none) : ∀ b, F b → upd H a o b ≠ none := fun b f => by
  by_cases e : b = a
  · subst e; rw [upd_same]; exact fun z => nomatch z
  · rw [upd_ne e]; exact fd b f
theorem mt_run {r : V → List V → Hp → VK → Prop} {sem : List M → List M → Option (List M × M)} (hs : MSem K r sem) {xs : List V} {rs : List R} {as ms ms' : List M} {res : M} {x : V} {i : Nat} {Q : VK} (os : Oks σ xs rs) (ho : owns rs = some as)
    (s : SR K F H (xs.map some ++ some x :: τ) (rs.map R.own ++ none :: θ) σ ρ) (hx : σ[i]? = some (some x)) (hi : ρ[i]? = some (some (.ow ms))) (e : sem ms as = some (ms', res))
    (q : ∀ F' H' v, SR K F' H' (some v :: τ) (some res :: θ) σ (ρ.set i (some (.ow ms'))) → Q v H') : r x xs H Q := by
  obtain ⟨⟨c, d, r1, r2, n⟩, fd⟩ := s
  obtain ⟨v, c1, e1, h1, h2, h3, h4⟩ := r2.take hi
  rw [hx] at h1
  have ev : x = v := Option.some.inj (Option.some.inj h1)
  obtain ⟨ca, ct, g1, g2, g3⟩ := ROs.split os.len' r1
  rw [owns_some ho] at g1
  have g2' : ROs K F H τ θ ct := by cases g2 with | skip g => exact g
  cases h2 with
  | @ow a vs _ cm ha hm =>
    subst ev
    refine hs F H a vs ms cm xs as ca ms' res Q ha hm (ROs.rms g1) (fun y => ?_) (fun y f => ?_) e (fun vs' y c' cy k1 k2 k3 => ?_)
    · have := n y; have := g3 y; have := h3 y; unfold add at this; omega
    · have := (n y).2 f; have := g3 y; have := h3 y; unfold add at this; omega
    · have nF : ¬ F a := fun f => by have := (n a).2 f; have := h3 a; unfold add at this; rw [one_self] at this; omega
      have za := n a
      have zb := h3 a
      have zc := g3 a
      have zd := k3 a
      unfold add at zb
      rw [one_self] at zb
      have b1 : RM K F (upd H a (.lst vs')) (.ref a) (.ow ms') (add (one a) c') := .ow upd_same (RMs.grow' ha nF k1 (by omega))
      obtain ⟨e2, z1, z2⟩ := (ROs.grow' (vs' := vs') ha nF h4 (by omega)).back (i := i) hx (by rw [List.getElem?_set_self (List.getElem?_eq_some_iff.mp hi).1]) b1
      rw [List.set_set] at z2
      refine q F _ _ ⟨⟨_, e2, .cons (RM.grow' ha nF k2 (by omega)) (ROs.grow' ha nF g2' (by omega)), z2, fun y => ?_⟩, fd_upd fd⟩
      have := n y
      have := h3 y
      have := g3 y
      have := k3 y
      have := z1 y
      unfold add at *
      refine ⟨by omega, fun f => ?_⟩
      have := (n y).2 f
      omega
theorem isOw_ty {i : Nat} {x : V} (s : SR K F H τ θ σ ρ) (h : isOw ρ i = true) (hx : σ[i]? = some (some x)) : tyV K "list" x H := by
  unfold isOw at h
  split at h
  · rename_i l hl
    obtain ⟨v, c, e, r, _⟩ := s.get hl
    rw [hx] at e; cases e
    cases r with
    | ow ha _ => exact .inl ⟨rfl, _, .inl (.inl ha)⟩
  · cases h
theorem eMt {o e : Expr} {es : List Expr} {fo : FE} {fa : FA} {name : Str} {apos cpos : Pos} {id : String} {r : V → List V → Hp → VK → Prop} {sem : List M → List M → Option (List M × M)} (pa : PlainAttrs "list") (slot : Slot "list" name id) (hty : typeOf (.builtin id) = pure (.type "method_descriptor")) (hm : MtR X id r) (hsem : MSem X.K r sem) (ho : EX X o fo) (ha : AX X (e :: es) fa)
    (hbase : attributeBase o name X.env (eval o X.env) = eval o X.env := by rfl)
    (hfew : ((backTo cpos (starEach (e :: es) X.env)).all (fun x => !x.1) && (backToKw cpos (keywordEach [] X.env)).all (fun x => x.1.isSome)
      && decide ((e :: es).length + ([] : List Keyword).length + (if ([] : List Keyword).isEmpty then 0 else 1) < 30)) = true := by rfl)
    (hline : (apos.endLine == cpos.line) = true := by rfl) (hs : starEach (e :: es) X.env = (false, eval e X.env) :: starEach es X.env := by rfl) (hplain : (backTo cpos (starEach es X.env)).any (·.1) = false := by rfl) :
    EX X (.Call (.Attribute o name apos) (e :: es) [] cpos) (fMt sem fo fa) := PE.imp (pe_bm pa slot hty hm ho ha hbase hfew hline hs hplain) fun σ H Q ⟨F, τ, θ, ρ, r', ρ', s, e, q⟩ => by
  unfold fMt at e
  split at e
  · rename_i i ρ1 e1
    split at e
    · rename_i hi
      simp only [Option.bind_eq_some_iff] at e
      obtain ⟨⟨rs, ρ2⟩, e2, as, e3, e4⟩ := e
      split at e4
      · rename_i ms hms
        simp only [Option.map_eq_some_iff] at e4
        obtain ⟨⟨ms', res⟩, e5, e6⟩ := e4
        cases e6
        refine ⟨F, τ, θ, ρ, _, ρ1, s, e1, fun F1 H1 x s1 o1 => ⟨isOw_ty s1 hi o1, F1, _, _, ρ1, rs, ρ2, s1, e2, fun F2 H2 xs s2 os => ?_⟩⟩
        exact mt_run hsem os e3 s2 o1 hms e5 fun F' H' v s' => q F' H' v s' trivial
      · cases e4
    · cases e
  · cases e
theorem eMt0 {o : Expr} {fo : FE} {name : Str} {apos cpos : Pos} {id : String} {r : V → List V → Hp → VK → Prop} {sem : List M → List M → Option (List M × M)} (pa : PlainAttrs "list") (slot : Slot "list" name id) (hty : typeOf (.builtin id) = pure (.type "method_descriptor")) (hm : MtR X id r) (hsem : MSem X.K r sem) (ho : EX X o fo)
    (hbase : attributeBase o name X.env (eval o X.env) = eval o X.env := by rfl) (hline : (apos.endLine == cpos.line) = true := by rfl) :
    EX X (.Call (.Attribute o name apos) [] [] cpos) (fMt sem fo fNil) := PE.imp (pe_bm0 pa slot hty hm ho hbase hline) fun σ H Q ⟨F, τ, θ, ρ, r', ρ', s, e, q⟩ => by
  unfold fMt at e
  split at e
  · rename_i i ρ1 e1
    split at e
    · rename_i hi
      simp only [Option.bind_eq_some_iff] at e
      obtain ⟨⟨rs, ρ2⟩, e2, as, e3, e4⟩ := e
      cases e2
      split at e4
      · rename_i ms hms
        simp only [Option.map_eq_some_iff] at e4
        obtain ⟨⟨ms', res⟩, e5, e6⟩ := e4
        cases e6
        refine ⟨F, τ, θ, ρ, _, ρ1, s, e1, fun F1 H1 x s1 o1 => ⟨isOw_ty s1 hi o1, ?_⟩⟩
        exact mt_run hsem .nil e3 s1 o1 hms e5 fun F' H' v s' => q F' H' v s' trivial
      · cases e4
    · cases e
  · cases e
/-! the methods -/
def sApp : List M → List M → Option (List M × M) := fun ms as => match as with
  | [m] => if ms.length ≤ 100000 then some (ms ++ [m], .fz .non) else none
  | _ => none
theorem k100000 {n : Nat} (h : n ≤ 100000) : n < sizeLine := Nat.lt_of_le_of_lt h (by decide)
theorem m_app : MSem K rAppend sApp := fun F H a vs ms c xs as ca ms' res Q ha hm hx n nf e q => by
  unfold sApp at e
  split at e
  · split at e
    · rename_i m hl
      cases e
      cases hx with
      | cons r1 r2 =>
        cases r2
        exact ⟨a, vs, _, rfl, rfl, ha, by rw [hm.len]; exact k100000 hl, q _ _ _ _ (hm.app (.cons r1 .nil)) (.fz .non) fun x => by unfold add c0; omega⟩
    · cases e
  · cases e
/-- the parts of a list, its i-th out -/
theorem RMs.erase : ∀ {vs : List V} {ms : List M} {c : Cn}, RMs K F H vs ms c → ∀ {i : Nat} {m : M}, ms[i]? = some m → ∃ v c1 c2, vs[i]? = some v ∧ RM K F H v m c1 ∧ RMs K F H (vs.eraseIdx i) (ms.eraseIdx i) c2 ∧ ∀ x, c x = c1 x + c2 x
  | _, _, _, .nil, i, m, h => by simp at h
  | _, _, _, .cons (c := c) (d := d) r q, 0, m, h => by
    simp at h
    subst h
    exact ⟨_, c, d, rfl, r, q, fun x => rfl⟩
  | _, _, _, .cons (c := c) (d := d) r q, i + 1, m, h => by
    obtain ⟨v, c1, c2, h1, h2, h3, h4⟩ := RMs.erase q (i := i) (by simpa using h)
    exact ⟨v, c1, _, by simpa using h1, h2, .cons r h3, fun x => by have := h4 x; unfold add; omega⟩
theorem RMs.setAt : ∀ {vs : List V} {ms : List M} {c : Cn}, RMs K F H vs ms c → ∀ {i : Nat} {v : V} {m : M} {d : Cn}, RM K F H v m d → ∃ e, RMs K F H (vs.set i v) (ms.set i m) e ∧ ∀ x, e x ≤ c x + d x
  | _, _, _, .nil, i, v, m, d, h => ⟨c0, .nil, fun x => by unfold c0; omega⟩
  | _, _, _, .cons (c := c) (d := d) r q, 0, v, m, d', h => ⟨_, .cons h q, fun x => by unfold add; omega⟩
  | _, _, _, .cons (c := c) (d := d) r q, i + 1, v, m, d', h => by
    obtain ⟨e, h1, h2⟩ := RMs.setAt q (i := i) h
    exact ⟨_, .cons r h1, fun x => by have := h2 x; unfold add; omega⟩
def sPop : List M → List M → Option (List M × M) := fun ms as => match as with
  | [] => (ms[ms.length - 1]?).map fun m => (ms.dropLast, m)
  | _ => none
theorem m_pop : MSem K rPop sPop := fun F H a vs ms c xs as ca ms' res Q ha hm hx n nf e q => by
  unfold sPop at e
  split at e
  · simp only [Option.map_eq_some_iff] at e
    obtain ⟨m, e1, e2⟩ := e
    cases e2
    cases hx
    obtain ⟨v, c1, c2, h1, h2, h3, h4⟩ := hm.erase e1
    have hl := hm.len
    have d1 : ms.eraseIdx (ms.length - 1) = ms.dropLast := List.eraseIdx_length_sub_one ..
    have d2 : vs.eraseIdx (ms.length - 1) = vs.dropLast := by rw [← hl]; exact List.eraseIdx_length_sub_one ..
    rw [d1, d2] at h3
    exact ⟨a, vs, v, rfl, rfl, ha, by rw [hl]; exact h1, q _ _ _ _ h3 h2 fun x => by have := h4 x; unfold c0; omega⟩
  · cases e
def sPopAt : List M → List M → Option (List M × M) := fun ms as => match as with
  | [.fz (.int i)] => if inR i then (seqIndex? i ms.length).bind fun k => (ms[k]?).map fun m => (ms.eraseIdx k, m) else none
  | _ => none
theorem m_popAt : MSem K rPopAt sPopAt := fun F H a vs ms c xs as ca ms' res Q ha hm hx n nf e q => by
  unfold sPopAt at e
  split at e
  · split at e
    · rename_i i hi
      unfold inR at hi
      simp only [decide_eq_true_eq] at hi
      simp only [Option.bind_eq_some_iff, Option.map_eq_some_iff] at e
      obtain ⟨k, e0, m, e1, e2⟩ := e
      cases e2
      cases hx with
      | cons r1 r2 =>
        cases r2
        cases r1 with
        | fz r1 =>
          cases r1
          obtain ⟨v, c1, c2, h1, h2, h3, h4⟩ := hm.erase e1
          exact ⟨a, vs, i, k, v, rfl, rfl, ha, by omega, by omega, by rw [hm.len]; exact e0, h1, q _ _ _ _ h3 h2 fun x => by have := h4 x; unfold add c0; omega⟩
    · cases e
  · cases e
theorem RMs.rev : ∀ {vs : List V} {ms : List M} {c : Cn}, RMs K F H vs ms c → RMs K F H vs.reverse ms.reverse c
  | _, _, _, .nil => .nil
  | _, _, _, .cons (c := c) (d := d) r q => by
    rw [List.reverse_cons, List.reverse_cons]
    exact (RMs.app (RMs.rev q) (.cons r .nil)).cast fun x => by unfold add c0; omega
def sRev : List M → List M → Option (List M × M) := fun ms as => match as with
  | [] => some (ms.reverse, .fz .non)
  | _ => none
theorem m_rev : MSem K rReverse sRev := fun F H a vs ms c xs as ca ms' res Q ha hm hx n nf e q => by
  unfold sRev at e
  split at e
  · cases e
    cases hx
    exact ⟨a, vs, rfl, rfl, ha, q _ _ _ _ hm.rev (.fz .non) fun x => by unfold c0; omega⟩
  · cases e

/-! ### o[i] = v -/
def gSet (fo fi : FE) : FG := fun m ρ => match fo ρ with
  | some (.al i, ρ1) => match fi ρ1 with
    | some (.vl (.fz (.int k)), ρ2) => match ρ2[i]? with
      | some (some (.ow ms)) => (ixN ms.length k).map fun j => ρ2.set i (some (.ow (ms.set j m)))
      | _ => none
    | _ => none
  | _ => none
theorem gSetX {o i : Expr} {fo fi : FE} {pos : Pos} (ho : EX X o fo) (hi : EX X i fi) (ha : ∀ v, assign (.Subscript o i pos) X.env v = (do
      let ov ← holding [v] (eval o X.env)
      let iv ← holding [v, ov] (eval i X.env)
      standAt pos
      holding [v, ov, iv] (setItem ov iv v)
      release [v, ov, iv] []) := by intro _; rfl) : GX X C (.Subscript o i pos) (gSet fo fi) := PG.imp (pg_sub ho hi set_list ha) fun v σ H Q ⟨F, τ, θ, m, ρ, ρ', s, e, q⟩ => by
  unfold gSet at e
  split at e
  · rename_i j ρ1 e1
    split at e
    · rename_i k ρ2 e2
      split at e
      · rename_i ms hms
        simp only [Option.map_eq_some_iff] at e
        obtain ⟨jj, e3, e4⟩ := e
        subst e4
        refine ⟨F, _, _, ρ, _, ρ1, s, e1, fun F1 H1 x s1 o1 => ⟨F1, _, _, ρ1, _, ρ2, s1, e2, fun F2 H2 y s2 o2 => ?_⟩⟩
        have ey : y = .int k := by
          obtain ⟨v', e4, r⟩ := SR.topD s2
          cases e4; cases r; rfl
        subst ey
        have s3 := SR.pop (SR.pop s2)
        obtain ⟨⟨c, d, r1, r2, n⟩, fd⟩ := s3
        obtain ⟨w, c1, e5, h1, h2, h3, h4⟩ := r2.take hms
        have ox : σ[j]? = some (some x) := o1
        rw [ox] at h1; cases h1
        cases r1 with
        | @cons _ _ _ _ cv ct g1 g2 =>
          cases h2 with
          | @ow a vs _ cm ha hm =>
            obtain ⟨ce, z1, z2⟩ := hm.setAt (i := jj) g1
            refine ⟨a, vs, k, jj, rfl, rfl, ha, by rw [hm.len]; exact e3, ?_⟩
            have nF : ¬ F2 a := fun f => by have := (n a).2 f; have := h3 a; unfold add at this; rw [one_self] at this; omega
            have za := n a
            have zb := h3 a
            have zd := z2 a
            unfold add at za zb
            rw [one_self] at zb
            have b1 : RM X.K F2 (upd H2 a (.lst (vs.set jj v))) (.ref a) (.ow (ms.set jj m)) (add (one a) ce) := .ow upd_same (RMs.grow' ha nF z1 (by omega))
            obtain ⟨e2, y1, y2⟩ := (ROs.grow' (vs' := vs.set jj v) ha nF h4 (by omega)).back (i := j) ox (by rw [List.getElem?_set_self (List.getElem?_eq_some_iff.mp hms).1]) b1
            rw [List.set_set] at y2
            refine q F2 _ _ ⟨⟨_, e2, ROs.grow' ha nF g2 (by omega), y2, fun y => ?_⟩, fd_upd fd⟩ .refl
            have := n y
            have := h3 y
            have := y1 y
            have := z2 y
            unfold add at *
            refine ⟨by omega, fun f => ?_⟩
            have := (n y).2 f
            omega
      · cases e
    · cases e
  · cases e

/-! ### targets that are tuples -/
abbrev FGs := List D → Ev → Option Ev
def tGs (K : PySem.W.Frag) (C : Nat → Bool) (f : FGs) : TGs := fun vs σ H Q => ∃ F τ θ ds ρ ρ', SR K F H (vs.map some ++ τ) ((ds.map fun d => some (.fz d)) ++ θ) σ ρ ∧ vs.length = ds.length ∧ f ds ρ = some ρ' ∧ ∀ F' H' σ', SR K F' H' τ θ σ' ρ' → Keep C σ σ' → Q σ' H'
abbrev GsX (X : Cx) (C : Nat → Bool) (es : List Expr) (f : FGs) : Prop := PGs X es (tGs X.K C f)
theorem PGs.imp {es : List Expr} {t u : TGs} (h : PGs X es t) (i : ∀ v σ H Q, u v σ H Q → t v σ H Q) : PGs X es u := ⟨fun pins s σ H v w Q I r q => h.run pins s σ H v w Q I r (i v σ H Q q)⟩
def gsNil : FGs := fun ds ρ => match ds with
  | [] => some ρ
  | _ => none
def gsCons (g : FG) (gs : FGs) : FGs := fun ds ρ => match ds with
  | d :: r => (g (.fz d) ρ).bind fun ρ1 => gs r ρ1
  | _ => none
theorem gsNilX : GsX X C [] gsNil := PGs.imp pgs_nil fun v σ H Q ⟨F, τ, θ, ds, ρ, ρ', s, hl, e, q⟩ => by
  unfold gsNil at e
  split at e
  · cases e
    cases v with
    | nil => exact ⟨rfl, q F H σ s .refl⟩
    | cons _ _ => simp at hl
  · cases e
theorem gsConsX {e : Expr} {es : List Expr} {g : FG} {gs : FGs} (h1 : GX X C e g) (h2 : GsX X C es gs) (hs : (assignEach (e :: es) X.env).map (·.2) = assign e X.env :: (assignEach es X.env).map (·.2) := by rfl) : GsX X C (e :: es) (gsCons g gs) := PGs.imp (pgs_cons h1 h2 hs) fun v σ H Q ⟨F, τ, θ, ds, ρ, ρ', s, hl, e, q⟩ => by
  unfold gsCons at e
  split at e
  · rename_i d r
    simp only [Option.bind_eq_some_iff] at e
    obtain ⟨ρ1, e1, e2⟩ := e
    cases v with
    | nil => simp at hl
    | cons x xs =>
      refine ⟨x, xs, rfl, F, _, _, .fz d, ρ, ρ1, s, e1, fun F1 H1 σ1 s1 k1 => ?_⟩
      exact ⟨F1, τ, θ, r, ρ1, ρ', s1, by simpa using hl, e2, fun F2 H2 σ2 s2 k2 => q F2 H2 σ2 s2 (k1.trans k2)⟩
  · cases e
theorem SR.pushs {vs : List V} {ds : List D} (r : RDs K F H vs ds) (s : SR K F H τ θ σ ρ) : SR K F H (vs.map some ++ τ) ((ds.map fun d => some (M.fz d)) ++ θ) σ ρ := by
  induction vs generalizing ds with
  | nil => cases r; exact s
  | cons v vs ih =>
    cases r with
    | cons r q => exact SR.push (ih q) r
def gTupl (n : Nat) (gs : FGs) : FG := fun m ρ => match m with
  | .fz (.tup ds) => if ds.length = n then gs ds ρ else none
  | _ => none
theorem gTupX {es : List Expr} {k n : Nat} {gs : FGs} {pos : Pos} (hc : X.calm = true) (h : GsX X C es gs) (hn : (assignEach es X.env).length = n := by rfl) (hst : (assignEach es X.env).findIdx? (·.1) = none := by rfl) : GX X C (.Tuple es k pos) (gTupl n gs) := PG.imp (pg_tup hc h hn hst) fun v σ H Q ⟨F, τ, θ, m, ρ, ρ', s, e, q⟩ => by
  unfold gTupl at e
  split at e
  · rename_i ds
    split at e
    · rename_i hl
      obtain ⟨v', e4, r⟩ := SR.topD s
      cases e4
      cases r with
      | tup qq rs => exact ⟨_, _, rfl, qq, by rw [rs.len]; exact hl, F, τ, θ, ds, ρ, ρ', SR.pushs rs s.pop, rs.len, e, q⟩
    · cases e
  · cases e

/-! ### comprehensions -/
def wipeE (ρ : Ev) : List Nat → Ev
  | [] => ρ
  | v :: vs => (wipeE ρ vs).set v none
theorem ROs.unset : ∀ {os : List (Option V)} {ms : List (Option M)} {c : Cn} {i : Nat} {o : Option V}, ROs K F H (os.set i o) (ms.set i none) c → ROs K F H os (ms.set i none) c := by
  intro os
  induction os with
  | nil => intro ms c i o r; exact r
  | cons a os ih =>
    intro ms c i o r
    cases ms with
    | nil => cases i <;> cases r
    | cons m ms =>
      cases i with
      | zero => cases r with | skip r => exact .skip r
      | succ i =>
        cases r with
        | skip r => exact .skip (ih r)
        | cons r q => exact .cons r (ih q)
theorem ROs.doset : ∀ {os : List (Option V)} {ms : List (Option M)} {c : Cn} {i : Nat} {o : Option V}, ROs K F H os ms c → ∃ d, ROs K F H (os.set i o) (ms.set i none) d ∧ ∀ x, d x ≤ c x := by
  intro os ms c i o r
  induction r generalizing i with
  | nil => exact ⟨c0, .nil, fun x => Nat.le_refl _⟩
  | @skip a os ms c q ih =>
    cases i with
    | zero => exact ⟨c, .skip q, fun x => Nat.le_refl _⟩
    | succ i => obtain ⟨d, h1, h2⟩ := ih (i := i); exact ⟨d, .skip h1, h2⟩
  | @cons v m os ms c d r q ih =>
    cases i with
    | zero => exact ⟨d, .skip q, fun x => by unfold add; omega⟩
    | succ i => obtain ⟨e, h1, h2⟩ := ih (i := i); exact ⟨_, .cons r h1, fun x => by have := h2 x; unfold add; omega⟩
theorem SR.wiped (vs : List Nat) (s : SR K F H τ θ σ ρ) : SR K F H τ θ (wipe σ vs) (wipeE ρ vs) := by
  induction vs with
  | nil => exact s
  | cons v vs ih =>
    obtain ⟨⟨c, d, r1, r2, n⟩, fd⟩ := ih
    obtain ⟨e, h1, h2⟩ := r2.doset (i := v) (o := none)
    exact ⟨⟨c, e, r1, h1, fun x => by have := n x; have := h2 x; exact ⟨by omega, fun f => by have := (n x).2 f; omega⟩⟩, fd⟩
theorem wipeE_set (ρ : Ev) (v : Nat) : ∀ vs : List Nat, wipeE (ρ.set v none) vs = (wipeE ρ vs).set v none
  | [] => rfl
  | w :: vs => by
    unfold wipeE
    rw [wipeE_set ρ v vs]
    by_cases e : v = w
    · subst e; rfl
    · exact List.set_comm _ _ e
theorem ROs.unwipe : ∀ (vs : List Nat) {ρ : Ev} {c : Cn}, ROs K F H (wipe σ vs) (wipeE ρ vs) c → ROs K F H σ (wipeE ρ vs) c
  | [], _, _, r => r
  | v :: vs, ρ, c, r => by
    have r' : ROs K F H (wipe σ vs) ((wipeE ρ vs).set v none) c := ROs.unset r
    rw [← wipeE_set] at r'
    have := ROs.unwipe vs r'
    rw [wipeE_set] at this
    exact this
theorem SR.unwiped (vs : List Nat) (s : SR K F H τ θ (wipe σ vs) (wipeE ρ vs)) : SR K F H τ θ σ (wipeE ρ vs) :=
  let ⟨⟨c, d, r1, r2, n⟩, fd⟩ := s; ⟨⟨c, d, r1, ROs.unwipe vs r2, n⟩, fd⟩
theorem wipe_get {σ : List (Option V)} : ∀ {vs : List Nat} {j : Nat}, (wipe σ vs)[j]? = if j ∈ vs then (if j < σ.length then some none else none) else σ[j]?
  | [], j => by simp [wipe]
  | v :: vs, j => by
    unfold wipe
    by_cases e : v = j
    · subst e
      rw [List.getElem?_set, wipe_length]
      simp
    · rw [List.getElem?_set_ne e, wipe_get (vs := vs) (j := j)]
      have : j ∈ v :: vs ↔ j ∈ vs := by simp [Ne.symm e]
      simp only [this]
theorem wipe_keep {vs : List Nat} {σ σ2 : List (Option V)} (k : Keep (fun i => !vs.contains i) (wipe σ vs) σ2) : wipe σ2 vs = wipe σ vs := by
  refine List.ext_getElem? fun j => ?_
  have hl : σ2.length = σ.length := k.1.trans (wipe_length σ vs)
  rw [wipe_get, wipe_get]
  by_cases h : j ∈ vs
  · rw [if_pos h, if_pos h, hl]
  · rw [if_neg h, if_neg h]
    have := k.2 j (by simp [h])
    rw [this, wipe_get, if_neg h]
/-- a list at hand grows -/
theorem SR.grown {o v : V} {ms : List M} {m : M} (s : SR K F H (some v :: some o :: τ) (some m :: some (.ow ms) :: θ) σ ρ) : ∃ a xs, o = .ref a ∧ H a = some (.lst xs) ∧ xs.length = ms.length ∧ SR K F (upd H a (.lst (xs ++ [v]))) (some o :: τ) (some (.ow (ms ++ [m])) :: θ) σ ρ := by
  obtain ⟨⟨c, d, r1, r2, n⟩, fd⟩ := s
  cases r1 with
  | @cons _ _ _ _ c1 c2 h1 r1 =>
    cases r1 with
    | @cons _ _ _ _ c3 c4 h2 r1 =>
      cases h2 with
      | @ow a vs _ cm ha hm =>
        have nF : ¬ F a := fun f => by have := (n a).2 f; unfold add at this; rw [one_self] at this; omega
        have za := n a
        unfold add at za
        rw [one_self] at za
        refine ⟨a, vs, rfl, ha, hm.len, ⟨⟨_, d, .cons (.ow upd_same (RMs.grow' ha nF (hm.app (.cons h1 .nil)) (by unfold add c0; omega))) (ROs.grow' ha nF r1 (by omega)), ROs.grow' ha nF r2 (by omega), fun x => ?_⟩, fd_upd fd⟩⟩
        have := n x
        unfold add c0 at *
        exact ⟨by omega, fun f => by have := (n x).2 f; omega⟩
def fCompL (g : FG) (ft : FT) (fe : FE) (vs : List Nat) : List D → List M → Ev → Option (List M × Ev)
  | [], acc, ρ => some (acc, ρ)
  | d :: ds, acc, ρ => (g (.fz d) ρ).bind fun ρ1 => (ft ρ1).bind fun a => if a.1 then (match fe a.2 with
      | some (.vl m, ρ3) => if acc.length ≤ 100000 then fCompL g ft fe vs ds (acc ++ [m]) (wipeE ρ3 vs) else none
      | _ => none) else fCompL g ft fe vs ds acc (wipeE a.2 vs)
def fComp (fi : FI) (g : FG) (ft : FT) (fe : FE) (vs : List Nat) : FE := fun ρ => (fi ρ).bind fun a => (fCompL g ft fe vs a.1 [] (wipeE a.2 vs)).map fun b => (.vl (.ow b.1), b.2)
def fYes : FT := fun ρ => some (true, ρ)
theorem comp_run {fi : FI} {g : FG} {ft : FT} {fe : FE} {vs : List Nat} {Q : VK} (h : tE K (fComp fi g ft fe vs) σ H Q) : tLc (tI K fi) (tG K (fun i => !vs.contains i) g) (tT K ft) (tE K fe) vs σ H Q := by
  obtain ⟨F, τ, θ, ρ, r', ρ', s, e, q⟩ := h
  unfold fComp at e
  simp only [Option.bind_eq_some_iff, Option.map_eq_some_iff] at e
  obtain ⟨⟨ds, ρ1⟩, e1, ⟨res, ρe⟩, e2, e3⟩ := e
  cases e3
  refine ⟨F, τ, θ, ρ, ds, ρ1, s, e1, fun F1 H1 J ov om s1 wk D hD => ?_⟩
  refine ⟨fun i m H2 => m = ds.length - i ∧ i ≤ ds.length ∧ ∃ F2 ρ2 acc, SR K F2 H2 (ov :: some (.ref D) :: τ) (om :: some (.ow acc) :: θ) (wipe σ vs) (wipeE ρ2 vs) ∧ fCompL g ft fe vs (ds.drop i) acc (wipeE ρ2 vs) = some (res, ρe), ⟨ds.length, by simp, Nat.zero_le _, F1, ρ1, [], ?_, by simpa using e2⟩, ?_⟩
  · obtain ⟨⟨c, d, r1, r2, n⟩, fd⟩ := s1
    exact SR.under (SR.wiped vs (SR.newMut .nil r1 r2 (fun x => by unfold c0; have := n x; exact ⟨by omega, fun f => by have := this.2 f; omega⟩) fd hD))
  rintro i m H2 ⟨rfl, hi, F2, ρ2, acc, s2, e3⟩
  by_cases hlt : i < ds.length
  · have hd : ds[i]? = some ds[i] := List.getElem?_eq_getElem hlt
    obtain ⟨go, yl⟩ := wk.go F2 H2 _ _ _ _ i _ s2 hd
    rw [List.drop_eq_getElem_cons hlt] at e3
    unfold fCompL at e3
    simp only [Option.bind_eq_some_iff] at e3
    obtain ⟨ρ3, e4, ⟨b, ρ4⟩, e5, e6⟩ := e3
    refine .inr ⟨go, fun H' => i + 1 ≤ ds.length ∧ ∃ F2 ρ2 acc, SR K F2 H' (ov :: some (.ref D) :: τ) (om :: some (.ow acc) :: θ) (wipe σ vs) (wipeE ρ2 vs) ∧ fCompL g ft fe vs (ds.drop (i + 1)) acc (wipeE ρ2 vs) = some (res, ρe), fun H' h => ⟨ds.length - (i + 1), by omega, rfl, h.1, h.2⟩, fun x H3 y => ?_⟩
    obtain ⟨F3, s3⟩ := yl x H3 y
    refine ⟨F3, _, _, _, _, ρ3, s3, e4, fun F4 H4 σ4 s4 k4 => ⟨wipe_keep k4, F4, _, _, ρ3, b, ρ4, s4, e5, fun F5 H5 s5 => ?_⟩⟩
    cases b with
    | false =>
      refine iteF ⟨hlt, F5, ρ4, acc, ?_, e6⟩
      have := SR.wiped vs s5
      rw [wipe_keep k4] at this
      exact this
    | true =>
      simp only [if_true] at e6
      split at e6
      · rename_i mm ρ6 e7
        split at e6
        · rename_i hacc
          refine iteT ⟨F5, _, _, ρ4, _, ρ6, s5, e7, fun F6 H6 y s6 _ => ?_⟩
          obtain ⟨a, xs, ea, ha, hl, s7⟩ := SR.grown (SR.mid (os := [some y, ov]) (ms := [some mm, om]) s6 rfl |>.under)
          cases ea
          refine ⟨xs, ha, by rw [hl]; exact k100000 hacc, hlt, F6, ρ6, acc ++ [mm], ?_, e6⟩
          have := SR.wiped vs (SR.under s7)
          rw [wipe_keep k4] at this
          exact this
        · cases e6
      · cases e6
  · have e : i = ds.length := by omega
    subst e
    rw [List.drop_length] at e3
    cases e3
    exact .inl ⟨wk.stop F2 H2 _ _ _ _ _ s2 (Nat.le_refl _), q F2 H2 _ (SR.unwiped vs s2.pop) trivial⟩
end
end Dv

set_option Elab.async false
set_option linter.all false
set_option maxRecDepth 100000
set_option maxHeartbeats 4000000
namespace Dv
open PySem PySem.Spec PyProof.Rows L2

/-! ### defs -/
section
variable {X : Cx} {K : PySem.W.Frag} {F F' : Addr → Prop} {H H' : Hp} {τ : List (Option V)} {θ : List (Option M)} {σ : List (Option V)} {ρ : List (Option M)} {C : Nat → Bool}
/-- what a def hands back: its value, what stands behind in its arguments (none: not told) -/
abbrev FF := List M → Option (M × List (Option M))
def spD (K : PySem.W.Frag) (n : Nat) (g : FF) : Sp := fun vs H Q _ => vs.length = n ∧ ∃ F τ θ ms m outs, SR K F H τ θ (vs.map some) (ms.map some) ∧ g ms = some (m, outs) ∧ ∀ F' H' v, SR K F' H' (some v :: τ) (some m :: θ) (vs.map some) outs → Q v H'
def outsOf (C : Nat → Bool) (n : Nat) (ρ : Ev) : List (Option M) := (List.range n).map fun j => if C j = true then (ρ[j]?).join else none
def fnG (n N : Nat) (C : Nat → Bool) (body : FS) : FF := fun ms => match body (ms.map some ++ List.replicate (N - n) none) with
  | some (.rt m ρ') => some (m, outsOf C n ρ')
  | some (.nx ρ') => some (.fz .non, outsOf C n ρ')
  | _ => none
theorem ROs.nones {K : PySem.W.Frag} {F : Addr → Prop} {H : Hp} : ∀ {os : List (Option V)} {n : Nat}, os.length = n → ROs K F H os (List.replicate n none) c0
  | [], 0, _ => .nil
  | o :: os, n + 1, h => .skip (ROs.nones (by simpa using h))
theorem ROs.sel : ∀ {σ : List (Option V)} {ρ : List (Option M)} {d : Cn}, ROs K F H σ ρ d → ∀ {xs : List (Option V)} {ys : List (Option M)}, xs.length = ys.length → (∀ j : Nat, ys[j]? = some none ∨ ys[j]? = none ∨ (ys[j]? = ρ[j]? ∧ xs[j]? = σ[j]?)) →
    ∃ e, ROs K F H xs ys e ∧ ∀ x, e x ≤ d x := by
  intro σ ρ d r
  induction r with
  | nil =>
    intro xs ys hl h
    have : ∀ (xs : List (Option V)) (ys : List (Option M)), xs.length = ys.length → (∀ j : Nat, ys[j]? = some none ∨ ys[j]? = none ∨ (ys[j]? = ([] : List (Option M))[j]? ∧ xs[j]? = ([] : List (Option V))[j]?)) → ROs K F H xs ys c0 := by
      intro xs
      induction xs with
      | nil => intro ys hl _; cases ys with | nil => exact .nil | cons _ _ => simp at hl
      | cons x xs ih =>
        intro ys hl h
        cases ys with
        | nil => simp at hl
        | cons y ys =>
          have h0 := h 0
          simp at h0
          subst h0
          exact .skip (ih ys (by simpa using hl) fun j => by simpa using h (j + 1))
    exact ⟨c0, this xs ys hl h, fun x => Nat.le_refl _⟩
  | @skip o os ms c q ih =>
    intro xs ys hl h
    cases ys with
    | nil => cases xs with | nil => exact ⟨c0, .nil, fun x => Nat.zero_le _⟩ | cons _ _ => simp at hl
    | cons y ys =>
      cases xs with
      | nil => simp at hl
      | cons x xs =>
        obtain ⟨e, h1, h2⟩ := ih (xs := xs) (ys := ys) (by simpa using hl) fun j => by simpa using h (j + 1)
        have h0 := h 0
        simp at h0
        have : y = none := by rcases h0 with h0 | h0; exact h0; exact h0.1
        subst this
        exact ⟨e, .skip h1, h2⟩
  | @cons v m os ms c d r q ih =>
    intro xs ys hl h
    cases ys with
    | nil => cases xs with | nil => exact ⟨c0, .nil, fun x => Nat.zero_le _⟩ | cons _ _ => simp at hl
    | cons y ys =>
      cases xs with
      | nil => simp at hl
      | cons x xs =>
        obtain ⟨e, h1, h2⟩ := ih (xs := xs) (ys := ys) (by simpa using hl) fun j => by simpa using h (j + 1)
        have h0 := h 0
        simp at h0
        rcases h0 with h0 | ⟨h0, h0'⟩
        · subst h0; exact ⟨e, .skip h1, fun x => by have := h2 x; unfold add; omega⟩
        · subst h0 h0'; exact ⟨_, .cons r h1, fun x => by have := h2 x; unfold add; omega⟩
theorem SR.outs {C : Nat → Bool} {N : List Str} {vs : List V} (s : SR K F H τ θ σ ρ) (hk : Keep C (start N vs) σ) : SR K F H τ θ (vs.map some) (outsOf C vs.length ρ) := by
  obtain ⟨⟨c, d, r1, r2, n⟩, fd⟩ := s
  obtain ⟨e, h1, h2⟩ := r2.sel (xs := vs.map some) (ys := outsOf C vs.length ρ) (by unfold outsOf; simp) fun j => by
    by_cases hj : j < vs.length
    · unfold outsOf
      rw [List.getElem?_map, List.getElem?_range hj]
      simp only [Option.map_some]
      cases hc : C j with
      | false => simp
      | true =>
        simp only [if_true]
        cases hr : ρ[j]? with
        | none => simp
        | some o =>
          cases o with
          | none => simp
          | some m =>
            refine .inr (.inr ⟨rfl, ?_⟩)
            rw [hk.2 j hc]
            unfold L2.start
            rw [List.getElem?_append_left (by simpa using hj)]
    · refine .inr (.inl ?_)
      unfold outsOf
      rw [List.getElem?_eq_none (by simp; omega)]
  exact ⟨⟨c, e, r1, h1, fun x => by have := n x; have := h2 x; exact ⟨by omega, fun f => by have := (n x).2 f; omega⟩⟩, fd⟩
theorem SR.started {N : List Str} {vs : List V} {ms : List M} (s : SR K F H τ θ (vs.map some) (ms.map some)) : SR K F H τ θ (start N vs) (ms.map some ++ List.replicate (N.length - vs.length) none) := by
  obtain ⟨⟨c, d, r1, r2, n⟩, fd⟩ := s
  refine ⟨⟨c, _, r1, r2.app (ROs.nones (os := List.replicate (N.length - vs.length) none) (by simp)), fun x => ?_⟩, fd⟩
  unfold add c0
  have := n x
  exact ⟨by omega, fun f => by have := this.2 f; omega⟩
variable {P : Program} {w : World} {mg : Str → Option Value} {base : Heap}
/-- a def of the text: its body's function is its own -/
theorem okFn {x qual : Str} {st : Stmt} {f : Addr} {fd : FuncData} {N ps : List Str} {k : Nat} {body : FS} (Fu : Fun K x qual st f fd) (S : FnScope N ps (defScope st)) (C : Nat → Bool)
    (hb : ∀ (cdv : Value) (A : Around) (outer : List Env) (s : Shared) (H : Hp) (E : XK), Room k (A.deeper (envOfC qual (defScope st) s.heap.objs.size f cdv)) → BX (cxOf CX0 P w K mg base N qual (defScope st) f cdv A outer s H E).nox C (defBody st) body) :
    FnOk P w K mg base CX0 (k + 1) f fd ps (spD K ps.length (fnG ps.length N.length C body)) := by
  refine Fu.ok S (fun vs H Q E h => h.1) (fun cdv A outer s H vs Q E hr h => ⟨_, hb cdv A outer s H E hr, ?_⟩)
  obtain ⟨hl, F, τ, θ, ms, m, outs, s1, e, q⟩ := h
  have s2 := s1.started (N := N)
  unfold fnG at e
  rw [← hl] at e
  split at e
  · rename_i m' ρ' e1
    cases e
    exact ⟨F, τ, θ, _, _, s2, e1, fun F' H' σ' v s3 k3 => q F' H' v (SR.outs s3 k3)⟩
  · rename_i ρ' e1
    cases e
    exact ⟨F, τ, θ, _, _, s2, e1, fun F' H' σ' s3 k3 => q F' H' _ (SR.outs (s3.push .non) k3)⟩
  · cases e
/-- a function that is told otherwise -/
theorem FnOk.told {f : Addr} {fd : FuncData} {ps : List Str} {k n : Nat} {g g' : FF} (h : FnOk P w K mg base CX0 k f fd ps (spD K n g)) (e : ∀ ms r, g' ms = some r → g ms = some r) : FnOk P w K mg base CX0 k f fd ps (spD K n g') :=
  h.imp fun vs H Q E ⟨hl, F, τ, θ, ms, m, outs, s1, e1, q⟩ => ⟨hl, F, τ, θ, ms, m, outs, s1, e _ _ e1, q⟩

/-! ### calls -/
/-- the arguments: their own, or lent by a slot -/
def lend : List R → Ev → Option (List M × Ev)
  | [], ρ => some ([], ρ)
  | .vl m :: rs, ρ => (lend rs ρ).map fun a => (m :: a.1, a.2)
  | .al i :: rs, ρ => match ρ[i]? with
    | some (some m) => (lend rs (ρ.set i none)).map fun a => (m :: a.1, a.2)
    | _ => none
def back : List R → List (Option M) → Ev → Ev
  | .al i :: rs, o :: os, ρ => back rs os (ρ.set i o)
  | .vl _ :: rs, _ :: os, ρ => back rs os ρ
  | _, _, ρ => ρ
theorem lend_ok : ∀ {rs : List R} {vs : List V} {ρ : Ev} {ms : List M} {ρ' : Ev} {c d : Cn}, Oks σ vs rs → ROs K F H (vs.map some) (rs.map R.own) c → ROs K F H σ ρ d → lend rs ρ = some (ms, ρ') →
    ∃ c' d', ROs K F H (vs.map some) (ms.map some) c' ∧ ROs K F H σ ρ' d' ∧ ∀ x, c' x + d' x = c x + d x
  | [], _, ρ, ms, ρ', c, d, .nil, r1, r2, e => by cases e; exact ⟨c, d, r1, r2, fun x => rfl⟩
  | .vl m :: rs, _, ρ, ms, ρ', c, d, .cons (v := v) (vs := vs) o os, r1, r2, e => by
    unfold lend at e
    simp only [Option.map_eq_some_iff] at e
    obtain ⟨⟨ms1, ρ1⟩, e1, e2⟩ := e
    cases e2
    cases r1 with
    | @cons _ _ _ _ c1 c2 h1 h2 =>
      obtain ⟨c', d', g1, g2, g3⟩ := lend_ok os h2 r2 e1
      exact ⟨_, d', .cons h1 g1, g2, fun x => by have := g3 x; unfold add; omega⟩
  | .al i :: rs, _, ρ, ms, ρ', c, d, .cons (v := v) (vs := vs) o os, r1, r2, e => by
    unfold lend at e
    split at e
    · rename_i m hm
      simp only [Option.map_eq_some_iff] at e
      obtain ⟨⟨ms1, ρ1⟩, e1, e2⟩ := e
      cases e2
      cases r1 with
      | skip h2 =>
        obtain ⟨w, c1, d1, k1, k2, k3, k4⟩ := r2.take hm
        have o' : σ[i]? = some (some v) := o
        rw [o'] at k1; cases k1
        obtain ⟨c', d', g1, g2, g3⟩ := lend_ok os h2 k4 e1
        exact ⟨_, d', .cons k2 g1, g2, fun x => by have := g3 x; have := k3 x; unfold add; omega⟩
    · cases e
theorem set_at {os : List (Option V)} {i : Nat} {o : Option V} (h : os[i]? = some o) : os.set i o = os := by
  obtain ⟨h1, h2⟩ := List.getElem?_eq_some_iff.mp h
  rw [← h2]; exact List.set_getElem_self h1
theorem back_ok : ∀ {rs : List R} {vs : List V} {outs : List (Option M)} {ρ : Ev} {c d : Cn}, Oks σ vs rs → ROs K F H (vs.map some) outs c → ROs K F H σ ρ d → ∃ e, ROs K F H σ (back rs outs ρ) e ∧ ∀ x, e x ≤ c x + d x
  | [], _, outs, ρ, c, d, .nil, r1, r2 => ⟨d, r2, fun x => by omega⟩
  | .vl m :: rs, _, outs, ρ, c, d, .cons (v := v) (vs := vs) o os, r1, r2 => by
    cases r1 with
    | skip h => exact back_ok (rs := rs) os h r2
    | @cons _ _ _ _ c1 c2 h1 h2 =>
      obtain ⟨e, g1, g2⟩ := back_ok (rs := rs) os h2 r2
      exact ⟨e, g1, fun x => by have := g2 x; unfold add; omega⟩
  | .al i :: rs, _, outs, ρ, c, d, .cons (v := v) (vs := vs) o os, r1, r2 => by
    have o' : σ[i]? = some (some v) := o
    have hi : i < σ.length := (List.getElem?_eq_some_iff.mp o').1
    cases r1 with
    | skip h =>
      obtain ⟨d', k1, k2⟩ := r2.doset (i := i) (o := some v)
      rw [set_at o'] at k1
      obtain ⟨e, g1, g2⟩ := back_ok (rs := rs) os h k1
      exact ⟨e, g1, fun x => by have := g2 x; have := k2 x; omega⟩
    | @cons _ _ _ _ c1 c2 h1 h2 =>
      obtain ⟨d', k2, k1⟩ := r2.put (i := i) hi h1
      rw [set_at o'] at k1
      obtain ⟨e, g1, g2⟩ := back_ok (rs := rs) os h2 k1
      exact ⟨e, g1, fun x => by have := g2 x; have := k2 x; unfold add; omega⟩
def fCallF (g : FF) (fa : FA) : FE := fun ρ => (fa ρ).bind fun a => (lend a.1 a.2).bind fun l => (g l.1).map fun r => (.vl r.1, back a.1 r.2 l.2)
theorem fcall_run {n : Nat} {g : FF} {fa : FA} {Q : VK} {E : XK} (h : tE K (fun ρ => (fCallF g fa ρ).bind fun r => (fa ρ).bind fun a => if a.1.length = n then some r else none) σ H Q) : tCall (spD K n g) [] E (tA K fa) σ H Q := by
  obtain ⟨F, τ, θ, ρ, r', ρ', s, e, q⟩ := h
  unfold fCallF at e
  simp only [Option.bind_eq_some_iff, Option.map_eq_some_iff] at e
  obtain ⟨⟨r2, ρ2⟩, ⟨⟨rs, ρ1⟩, e1, ⟨ms, ρ3⟩, e2, ⟨m, outs⟩, e3, e4⟩, ⟨rs', ρ1'⟩, e5, e6⟩ := e
  rw [e1] at e5
  cases e5
  cases e4
  split at e6
  · rename_i hlen
    cases e6
    refine ⟨F, τ, θ, ρ, rs, ρ1, s, e1, fun F1 H1 vs s1 os => ?_⟩
    show spD K _ g (vs ++ []) H1 Q E
    rw [List.append_nil]
    obtain ⟨⟨c, d, r1, r2, n⟩, fd⟩ := s1
    obtain ⟨ca, ct, g1, g2, g3⟩ := ROs.split os.len' r1
    obtain ⟨c', d', k1, k2, k3⟩ := lend_ok os g1 r2 e2
    have hl : τ.length = θ.length := g2.len
    refine ⟨os.len.trans hlen, F1, τ ++ σ, θ ++ ρ3, ms, m, outs, ⟨⟨_, c', g2.app k2, k1, fun x => ?_⟩, fd⟩, e3, fun F2 H2 v s2 => ?_⟩
    · have := n x; have := g3 x; have := k3 x
      unfold add
      exact ⟨by omega, fun f => by have := (n x).2 f; omega⟩
    · obtain ⟨⟨cc, dd, z1, z2, zn⟩, zfd⟩ := s2
      cases z1 with
      | @cons _ _ _ _ cv cr y1 y2 =>
        obtain ⟨cτ, cσ, x1, x2, x3⟩ := ROs.split hl y2
        obtain ⟨e, b1, b2⟩ := back_ok os z2 x2
        refine q F2 H2 v ⟨⟨_, e, .cons y1 x1, b1, fun x => ?_⟩, zfd⟩ trivial
        have := zn x; have := x3 x; have := b2 x
        unfold add at *
        exact ⟨by omega, fun f => by have := (zn x).2 f; omega⟩
  · cases e6
end
/-- the number of operands is that of the argument list -/
class FAn (fa : FA) (n : Nat) : Prop where
  n : ∀ ρ rs ρ', fa ρ = some (rs, ρ') → rs.length = n
theorem fan_nil : FAn fNil 0 := ⟨fun ρ rs ρ' e => by cases e; rfl⟩
theorem fan_cons {fe : FE} {fa : FA} {n : Nat} (h : FAn fa n) : FAn (fCons fe fa) (n + 1) := ⟨fun ρ rs ρ' e => by
  unfold fCons at e
  simp only [Option.bind_eq_some_iff] at e
  obtain ⟨⟨r1, ρ1⟩, e1, ⟨rs2, ρ2⟩, e2, e3⟩ := e
  cases e3
  simp [h.n _ _ _ e2]⟩
section
variable {X : Cx} {k n : Nat} {f : Addr} {fd : FuncData} {ps ks : List Str} {x : Str} {p pos : Pos} {e : Expr} {es : List Expr} {fa : FA} {g : FF}
theorem eCallF (G : FnOk X.prog X.w X.K X.mg X.base CX0 k f fd ps (spD X.K n g)) (hr : Room k X.A) (hg : Gl X x) (hm : X.mg x = some (.ref f)) (hk : PySem.W.keepIn X.K (.ref f) = true) (hb : Binds X.K fd ps [])
    (ha : AX X (e :: es) fa) (hn : FAn fa n) (hdb : (x == ("__debug__" : Str)) = false := by decide) (he : starEach (e :: es) X.env = (false, eval e X.env) :: starEach es X.env := by rfl) (hpl : (backTo pos (starEach es X.env)).any (·.1) = false := by rfl) :
    EX X (.Call (.Name x p) (e :: es) [] pos) (fCallF g fa) := PE.imp (pe_call G hr hg hm hk hb .nil (pass0) ha hdb he hpl) fun σ H Q ⟨F, τ, θ, ρ, r', ρ', s, e, q⟩ => by
  refine fcall_run ⟨F, τ, θ, ρ, r', ρ', s, ?_, q⟩
  show (fCallF g fa ρ).bind _ = _
  rw [e]
  unfold fCallF at e
  simp only [Option.bind_eq_some_iff] at e ⊢
  obtain ⟨⟨rs, ρ1⟩, e1, _⟩ := e
  exact ⟨_, rfl, (rs, ρ1), e1, by rw [if_pos (hn.n _ _ _ e1)]⟩
end
end Dv

set_option Elab.async false
set_option linter.all false
set_option maxRecDepth 100000
set_option maxHeartbeats 4000000
namespace Dv
open PySem PySem.Spec PyProof.Rows L2

section
variable {X : Cx} {K : PySem.W.Frag} {F F' : Addr → Prop} {H H' : Hp}

/-! ### what data say of values -/
theorem rk {v : V} {d : D} (r : RMok K F H v (.fz d)) : RD K F H v d := by
  obtain ⟨c, r, _⟩ := r
  cases r with | fz r => exact r
theorem rInt {v : V} {i : Int} (r : RMok K F H v (.fz (.int i))) : v = .int i := by cases rk r; rfl
theorem rBl {v : V} {i : Bool} (r : RMok K F H v (.fz (.bl i))) : v = .bl i := by cases rk r; rfl
theorem rStr {v : V} {i : Str} (r : RMok K F H v (.fz (.str i))) : v = .str i := by cases rk r; rfl
theorem rNon {v : V} (r : RMok K F H v (.fz .non)) : v = .non := by cases rk r; rfl
theorem rTup {v : V} {l : List D} (r : RMok K F H v (.fz (.tup l))) : ∃ a xs, v = .ref a ∧ SqT K H a xs ∧ RDs K F H xs l := by
  cases rk r with | tup q rs => exact ⟨_, _, rfl, q, rs⟩
/-- frozen items -/
def unfz : List M → Option (List D)
  | [] => some []
  | .fz d :: r => (unfz r).map fun ds => d :: ds
  | .ow _ :: _ => none
  | .dc _ _ :: _ => none
theorem unfz_some : ∀ {l : List M} {ds : List D}, unfz l = some ds → l = ds.map .fz
  | [], _, e => by cases e; rfl
  | .fz d :: r, _, e => by
    unfold unfz at e
    simp only [Option.map_eq_some_iff] at e
    obtain ⟨ds, e1, e2⟩ := e
    subst e2
    rw [unfz_some e1]; rfl
  | .ow _ :: _, _, e => by cases e
  | .dc _ _ :: _, _, e => by cases e
theorem unfz_map : ∀ ds : List D, unfz (ds.map .fz) = some ds
  | [] => rfl
  | d :: ds => by simp [unfz, unfz_map ds]
def asL : M → Option (List D)
  | .fz (.lst l) => some l
  | .fz (.rol l) => some l
  | .ow l => unfz l
  | _ => none
def asLH : M → Option (List D)
  | .fz (.lst l) => some l
  | .ow l => unfz l
  | _ => none
def asT : M → Option (List D)
  | .fz (.tup l) => some l
  | _ => none
theorem rLH {v : V} {m : M} {ds : List D} (r : RMok K F H v m) (h : asLH m = some ds) : ∃ a xs, v = .ref a ∧ H a = some (.lst xs) ∧ RDs K F H xs ds := by
  obtain ⟨c, r, _⟩ := r
  cases r with
  | fz r =>
    cases r with
    | lst f q rs => cases h; exact ⟨_, _, rfl, q, rs⟩
    | _ => cases h
  | ow e q =>
    have := unfz_some h
    subst this
    exact ⟨_, _, rfl, e, (RMs.unfz q).1⟩
  | dc => cases h
theorem rL {v : V} {m : M} {ds : List D} (r : RMok K F H v m) (h : asL m = some ds) : ∃ a xs, v = .ref a ∧ SqL K H a xs ∧ RDs K F H xs ds := by
  obtain ⟨c, r, _⟩ := r
  cases r with
  | fz r =>
    cases r with
    | lst f q rs => cases h; exact ⟨_, _, rfl, .inl (.inl q), rs⟩
    | rol q rs => cases h; exact ⟨_, _, rfl, q.sq, rs⟩
    | _ => cases h
  | ow e q =>
    have := unfz_some h
    subst this
    exact ⟨_, _, rfl, .inl (.inl e), (RMs.unfz q).1⟩
  | dc => cases h
theorem rT {v : V} {m : M} {ds : List D} (r : RMok K F H v m) (h : asT m = some ds) : ∃ a xs, v = .ref a ∧ SqT K H a xs ∧ RDs K F H xs ds := by
  unfold asT at h
  split at h
  · cases h; exact rTup r
  · cases h
def dints : List D → Option (List Int)
  | [] => some []
  | .int i :: r => (dints r).map fun l => i :: l
  | _ :: _ => none
theorem dints_map (l : List Int) : dints (l.map .int) = some l := by
  induction l with
  | nil => rfl
  | cons i l ih => simp [dints, ih]
theorem dints_some : ∀ {l : List D} {ns : List Int}, dints l = some ns → l = ns.map .int
  | [], _, e => by cases e; rfl
  | .int i :: r, _, e => by
    unfold dints at e
    simp only [Option.map_eq_some_iff] at e
    obtain ⟨ds, e1, e2⟩ := e
    subst e2
    rw [dints_some e1]; rfl
  | .non :: _, _, e => by cases e
  | .bl _ :: _, _, e => by cases e
  | .str _ :: _, _, e => by cases e
  | .tup _ :: _, _, e => by cases e
  | .lst _ :: _, _, e => by cases e
  | .rol _ :: _, _, e => by cases e
theorem rInts : ∀ {xs : List V} {ns : List Int}, RDs K F H xs (ns.map .int) → xs = ns.map .int
  | _, [], .nil => rfl
  | _, _ :: _, .cons r q => by cases r; rw [rInts q]; rfl
def dbls : List D → Option (List Bool)
  | [] => some []
  | .bl i :: r => (dbls r).map fun l => i :: l
  | _ :: _ => none
theorem dbls_map (l : List Bool) : dbls (l.map .bl) = some l := by
  induction l with
  | nil => rfl
  | cons i l ih => simp [dbls, ih]
theorem dbls_some : ∀ {l : List D} {ns : List Bool}, dbls l = some ns → l = ns.map .bl
  | [], _, e => by cases e; rfl
  | .bl i :: r, _, e => by
    unfold dbls at e
    simp only [Option.map_eq_some_iff] at e
    obtain ⟨ds, e1, e2⟩ := e
    subst e2
    rw [dbls_some e1]; rfl
  | .non :: _, _, e => by cases e
  | .int _ :: _, _, e => by cases e
  | .str _ :: _, _, e => by cases e
  | .tup _ :: _, _, e => by cases e
  | .lst _ :: _, _, e => by cases e
  | .rol _ :: _, _, e => by cases e
theorem rBls : ∀ {xs : List V} {ns : List Bool}, RDs K F H xs (ns.map .bl) → xs = ns.map .bl
  | _, [], .nil => rfl
  | _, _ :: _, .cons r q => by cases r; rw [rBls q]; rfl
theorem RDs.app : ∀ {xs : List V} {ds : List D}, RDs K F H xs ds → ∀ {ys : List V} {es : List D}, RDs K F H ys es → RDs K F H (xs ++ ys) (ds ++ es)
  | _, _, .nil, _, _, q => q
  | _, _, .cons r t, _, _, q => .cons r (RDs.app t q)
theorem RDs.tk : ∀ {xs : List V} {ds : List D}, RDs K F H xs ds → ∀ n, RDs K F H (xs.take n) (ds.take n)
  | _, _, .nil, n => by simp; exact .nil
  | _, _, .cons r t, 0 => .nil
  | _, _, .cons r t, n + 1 => .cons r (RDs.tk t n)
theorem RDs.dr : ∀ {xs : List V} {ds : List D}, RDs K F H xs ds → ∀ n, RDs K F H (xs.drop n) (ds.drop n)
  | _, _, .nil, n => by simp; exact .nil
  | _, _, .cons r t, 0 => .cons r t
  | _, _, .cons r t, n + 1 => RDs.dr t n
theorem RDs.rev : ∀ {xs : List V} {ds : List D}, RDs K F H xs ds → RDs K F H xs.reverse ds.reverse
  | _, _, .nil => .nil
  | _, _, .cons r t => by
    rw [List.reverse_cons, List.reverse_cons]
    exact (RDs.rev t).app (.cons r .nil)
theorem RDs.rep {xs : List V} {ds : List D} (r : RDs K F H xs ds) : ∀ n, RDs K F H (List.replicate n xs).flatten (List.replicate n ds).flatten
  | 0 => .nil
  | n + 1 => by
    rw [List.replicate_succ, List.replicate_succ, List.flatten_cons, List.flatten_cons]
    exact r.app (RDs.rep r n)
theorem RDs.ofInts : ∀ ns : List Int, RDs K F H (ns.map .int) (ns.map .int)
  | [] => .nil
  | i :: ns => .cons (.int i) (RDs.ofInts ns)

/-! ### equality -/
mutual
def toP : D → PyData
  | .non => .none
  | .bl b => .bool b
  | .int i => .int i
  | .str x => .str x
  | .tup l => .tuple (toPs l)
  | .lst l => .list (toPs l)
  | .rol l => .list (toPs l)
  | .dic _ _ => .none
def toPs : List D → List PyData
  | [] => []
  | d :: r => toP d :: toPs r
end
mutual
/-- no dict in it -/
def nd : D → Bool
  | .tup l => nds l
  | .lst l => nds l
  | .rol l => nds l
  | .dic _ _ => false
  | .non => true
  | .bl _ => true
  | .int _ => true
  | .str _ => true
def nds : List D → Bool
  | [] => true
  | d :: r => nd d && nds r
end
mutual
theorem RD.dp : ∀ {v : V} {d : D}, RD K F H v d → nd d = true → Dp K H v (toP d)
  | _, _, .non, _ => .non
  | _, _, .bl b, _ => .bl b
  | _, _, .int i, _ => .int i
  | _, _, .str x, _ => .str x
  | _, _, .tup q rs, h => .tup q (RDs.dp rs h)
  | _, _, .lst f q rs, h => .lst (.inl (.inl q)) (RDs.dp rs h)
  | _, _, .rol q rs, h => .lst q.sq (RDs.dp rs h)
  | _, _, .dic _ _ _ _, h => by cases h
theorem RDs.dp : ∀ {v : List V} {d : List D}, RDs K F H v d → nds d = true → DpAll K H v (toPs d)
  | _, _, .nil, _ => .nil
  | _, _, .cons r q, h => .cons (RD.dp r (Bool.and_eq_true_iff.mp h).1) (RDs.dp q (Bool.and_eq_true_iff.mp h).2)
end
mutual
theorem RM.dp : ∀ {v : V} {m : M} {c : Cn}, RM K F H v m c → nd m.frz = true → Dp K H v (toP m.frz)
  | _, _, _, .fz r, h => r.dp h
  | _, _, _, .ow e q, h => .lst (.inl (.inl e)) (RMs.dp q h)
  | _, _, _, .dc _ _ _, h => by cases h
theorem RMs.dp : ∀ {v : List V} {m : List M} {c : Cn}, RMs K F H v m c → nds (M.frzs m) = true → DpAll K H v (toPs (M.frzs m))
  | _, _, _, .nil, _ => .nil
  | _, _, _, .cons r q, h => .cons (RM.dp r (Bool.and_eq_true_iff.mp h).1) (RMs.dp q (Bool.and_eq_true_iff.mp h).2)
end
mutual
theorem toP_plain : ∀ d : D, (toP d).plain = true
  | .non => rfl
  | .bl _ => rfl
  | .int _ => rfl
  | .str _ => rfl
  | .tup l => toPs_plain l
  | .lst l => toPs_plain l
  | .rol l => toPs_plain l
  | .dic _ _ => rfl
theorem toPs_plain : ∀ d : List D, PyData.plainAll (toPs d) = true
  | [] => rfl
  | d :: r => by
    show (PyData.plain (toP d) && PyData.plainAll (toPs r)) = true
    rw [toP_plain d, toPs_plain r]; rfl
end
def deq (a b : D) : Bool := PyData.eqv (toP a) (toP b)
def shal (a b : D) : Bool := decide (min (toP a).depth (toP b).depth ≤ 60)
def rEqP (K : PySem.W.Frag) (neg : Bool) : R2 := fun x y H Q => ∃ d e, Dp K H x d ∧ Dp K H y e ∧ d.plain = true ∧ e.plain = true ∧ min d.depth e.depth ≤ 60 ∧ Q (.bl (if neg then !PyData.eqv d e else PyData.eqv d e)) H
theorem op_eqP (hu : X.A.units + 64 < cLine) : OpR X (compareOp .Eq) (rEqP X.K false) := by
  intro pins s σ H x y v u Q I rx ry h
  obtain ⟨d, e, hd, he, p1, p2, hm, q⟩ := h
  obtain ⟨as, r1⟩ := Dp.reads I d x v hd rx
  obtain ⟨bs, r2⟩ := Dp.reads I e y u he ry
  exact SeqAt.eq_plain r1 r2 p1 p2 (by omega) ⟨.bl _, H, I, rfl, q⟩
theorem op_neP (hu : X.A.units + 64 < cLine) : OpR X (compareOp .NotEq) (rEqP X.K true) := by
  intro pins s σ H x y v u Q I rx ry h
  obtain ⟨d, e, hd, he, p1, p2, hm, q⟩ := h
  obtain ⟨as, r1⟩ := Dp.reads I d x v hd rx
  obtain ⟨bs, r2⟩ := Dp.reads I e y u he ry
  exact SeqAt.ne_plain r1 r2 p1 p2 (by omega) ⟨.bl _, H, I, rfl, q⟩
/-- a list or a tuple against an empty one -/
def rEqN (K : PySem.W.Frag) (neg : Bool) : R2 := fun x y H Q => ∃ a b xs, x = .ref a ∧ y = .ref b ∧ ((SqL K H a xs ∧ SqL K H b []) ∨ (SqT K H a xs ∧ SqT K H b [])) ∧ Q (.bl (if neg then !xs.isEmpty else xs.isEmpty)) H
theorem op_eqN (hu : X.A.units + 64 < cLine) : OpR X (compareOp .Eq) (rEqN X.K false) := by
  intro pins s σ H x y v u Q I rx ry h
  obtain ⟨a, b, xs, rfl, rfl, hq, q⟩ := h
  by_cases hx : xs = []
  · subst hx
    rcases hq with ⟨h1, h2⟩ | ⟨h1, h2⟩
    · exact op_eqP hu pins s σ H _ _ v u Q I rx ry ⟨.list [], .list [], .lst h1 .nil, .lst h2 .nil, rfl, rfl, by decide, q⟩
    · exact op_eqP hu pins s σ H _ _ v u Q I rx ry ⟨.tuple [], .tuple [], .tup h1 .nil, .tup h2 .nil, rfl, rfl, by decide, q⟩
  · cases rx; cases ry
    have hne : xs.isEmpty = false := by cases xs with | nil => exact absurd rfl hx | cons _ _ => rfl
    rw [hne] at q
    rcases hq with ⟨h1, h2⟩ | ⟨h1, h2⟩
    · obtain ⟨its, rv, p, hz⟩ := I.list h1
      obtain ⟨its2, rv2, p2, hz2⟩ := I.list h2
      cases rv2
      have hs : (its.toArray.size != ([] : List Value).toArray.size) = true := by
        have := rv.length
        cases xs with
        | nil => exact absurd rfl hx
        | cons _ _ => simp at this ⊢; intro z; subst z; simp at this
      exact SeqAt.RcAt.lists_lengths (A := X.A) p.isList p2.isList hs (by omega) _ _ _ _ ⟨.bl _, H, I, rfl, q⟩
    · obtain ⟨its, rv, p, hz⟩ := I.tuple h1
      obtain ⟨its2, rv2, p2, hz2⟩ := I.tuple h2
      cases rv2
      have e := SeqAt.RcAt.tuples (A := X.A) (e := fun _ => true) (show s.heap.IsTuple a its.toArray from p) (show s.heap.IsTuple b ([] : List Value).toArray from p2) (by omega) (fun j _ h2 => by simp at h2)
      have hk : ((List.range (min its.toArray.size ([] : List Value).toArray.size)).all (fun _ => true) && its.toArray.size == ([] : List Value).toArray.size) = false := by
        have := rv.length
        cases xs with
        | nil => exact absurd rfl hx
        | cons _ _ => simp at this ⊢; intro z; subst z; simp at this
      rw [hk] at e
      exact e _ _ _ _ ⟨.bl _, H, I, rfl, q⟩
theorem op_neN (hu : X.A.units + 64 < cLine) : OpR X (compareOp .NotEq) (rEqN X.K true) := by
  intro pins s σ H x y v u Q I rx ry h
  obtain ⟨a, b, xs, rfl, rfl, hq, q⟩ := h
  by_cases hx : xs = []
  · subst hx
    rcases hq with ⟨h1, h2⟩ | ⟨h1, h2⟩
    · exact op_neP hu pins s σ H _ _ v u Q I rx ry ⟨.list [], .list [], .lst h1 .nil, .lst h2 .nil, rfl, rfl, by decide, q⟩
    · exact op_neP hu pins s σ H _ _ v u Q I rx ry ⟨.tuple [], .tuple [], .tup h1 .nil, .tup h2 .nil, rfl, rfl, by decide, q⟩
  · cases rx; cases ry
    have hne : xs.isEmpty = false := by cases xs with | nil => exact absurd rfl hx | cons _ _ => rfl
    rw [hne] at q
    rcases hq with ⟨h1, h2⟩ | ⟨h1, h2⟩
    · obtain ⟨its, rv, p, hz⟩ := I.list h1
      obtain ⟨its2, rv2, p2, hz2⟩ := I.list h2
      cases rv2
      have hs : (its.toArray.size != ([] : List Value).toArray.size) = true := by
        have := rv.length
        cases xs with
        | nil => exact absurd rfl hx
        | cons _ _ => simp at this ⊢; intro z; subst z; simp at this
      exact SeqAt.RcNeAt.lists_lengths (A := X.A) p.isList p2.isList hs (by omega) _ _ _ _ ⟨.bl _, H, I, rfl, q⟩
    · obtain ⟨its, rv, p, hz⟩ := I.tuple h1
      obtain ⟨its2, rv2, p2, hz2⟩ := I.tuple h2
      cases rv2
      have e := SeqAt.RcNeAt.tuples (A := X.A) (e := fun _ => true) (show s.heap.IsTuple a its.toArray from p) (show s.heap.IsTuple b ([] : List Value).toArray from p2) (by omega) (fun j _ h2 => by simp at h2)
      have hk : ((List.range (min its.toArray.size ([] : List Value).toArray.size)).all (fun _ => true) && its.toArray.size == ([] : List Value).toArray.size) = false := by
        have := rv.length
        cases xs with
        | nil => exact absurd rfl hx
        | cons _ _ => simp at this ⊢; intro z; subst z; simp at this
      rw [hk] at e
      exact e _ _ _ _ ⟨.bl _, H, I, rfl, q⟩
def rEqA (K : PySem.W.Frag) (neg : Bool) : R2 := fun x y H Q => rEqN K neg x y H Q ∨ rEqP K neg x y H Q
theorem op_eqA (hu : X.A.units + 64 < cLine) : OpR X (compareOp .Eq) (rEqA X.K false) := OpR.or (op_eqN hu) (op_eqP hu)
theorem op_neA (hu : X.A.units + 64 < cLine) : OpR X (compareOp .NotEq) (rEqA X.K true) := OpR.or (op_neN hu) (op_neP hu)
/-- against an empty one -/
def eqN : M → M → Option Bool
  | .ow l, .ow [] => some l.isEmpty
  | .fz (.lst l), .ow [] => some l.isEmpty
  | .fz (.rol l), .ow [] => some l.isEmpty
  | .fz (.tup l), .fz (.tup []) => some l.isEmpty
  | _, _ => none
theorem eqN_ok {v1 v2 : V} {m1 m2 : M} {e : Bool} (h1 : RMok K F H v1 m1) (h2 : RMok K F H v2 m2) (h : eqN m1 m2 = some e) : ∃ a b xs, v1 = .ref a ∧ v2 = .ref b ∧ ((SqL K H a xs ∧ SqL K H b []) ∨ (SqT K H a xs ∧ SqT K H b [])) ∧ xs.isEmpty = e := by
  obtain ⟨c1, r1, _⟩ := h1
  obtain ⟨c2, r2, _⟩ := h2
  unfold eqN at h
  split at h
  · cases h
    cases r1 with
    | ow a1 q1 =>
      cases r2 with
      | ow a2 q2 =>
        cases q2
        exact ⟨_, _, _, rfl, rfl, .inl ⟨.inl (.inl a1), .inl (.inl a2)⟩, by have := q1.len; cases q1 <;> rfl⟩
  · cases h
    cases r1 with
    | fz r1 =>
      cases r1 with
      | lst f q rs =>
        cases r2 with
        | ow a2 q2 =>
          cases q2
          exact ⟨_, _, _, rfl, rfl, .inl ⟨.inl (.inl q), .inl (.inl a2)⟩, by cases rs <;> rfl⟩
  · cases h
    cases r1 with
    | fz r1 =>
      cases r1 with
      | rol q rs =>
        cases r2 with
        | ow a2 q2 =>
          cases q2
          exact ⟨_, _, _, rfl, rfl, .inl ⟨q.sq, .inl (.inl a2)⟩, by cases rs <;> rfl⟩
  · cases h
    cases r1 with
    | fz r1 =>
      cases r1 with
      | tup q rs =>
        cases r2 with
        | fz r2 =>
          cases r2 with
          | tup q2 rs2 =>
            cases rs2
            exact ⟨_, _, _, rfl, rfl, .inr ⟨q, q2⟩, by cases rs <;> rfl⟩
  · cases h
def sEq0 (neg : Bool) : M → M → Option O := fun a b => if (nd a.frz && nd b.frz && shal a.frz b.frz) = true then some (.ex (.bl (if neg then !deq a.frz b.frz else deq a.frz b.frz))) else none
def sEq (neg : Bool) : M → M → Option O := fun a b => match eqN a b with
  | some e => some (.ex (.bl (if neg then !e else e)))
  | none => sEq0 neg a b
theorem b_eq (neg : Bool) : Bin K (rEqA K neg) (sEq neg) := fun F H v1 m1 v2 m2 o Q h1 h2 e q => by
  unfold sEq at e
  split at e
  · rename_i k hk
    cases e
    obtain ⟨a, b, xs, e1, e2, hq, e3⟩ := eqN_ok h1 h2 hk
    subst e3
    exact .inl ⟨a, b, xs, e1, e2, hq, q _ (.bl _)⟩
  · unfold sEq0 at e
    split at e
    · rename_i hs
      cases e
      obtain ⟨c, r1, _⟩ := h1
      obtain ⟨c', r2, _⟩ := h2
      simp only [Bool.and_eq_true] at hs
      exact .inr ⟨_, _, r1.dp hs.1.1, r2.dp hs.1.2, toP_plain _, toP_plain _, of_decide_eq_true hs.2, q _ (.bl _)⟩
    · cases e
/-! x in xs -/
def rInP (K : PySem.W.Frag) (neg : Bool) : R2 := fun x y H Q => ∃ d ds, Dp K H x d ∧ (Dp K H y (.list ds) ∨ Dp K H y (.tuple ds)) ∧ d.plain = true ∧ PyData.plainAll ds = true ∧ min (PyData.depthAll ds) d.depth ≤ 60 ∧ Q (.bl (if neg then !(ds.any fun z => PyData.eqv z d) else ds.any fun z => PyData.eqv z d)) H
theorem op_inP (hu : X.A.units + 64 < cLine) : OpR X (compareOp .In) (rInP X.K false) := by
  intro pins s σ H x y v u Q I rx ry h
  obtain ⟨d, ds, hd, he, p1, p2, hm, q⟩ := h
  obtain ⟨as, r1⟩ := Dp.reads I d x v hd rx
  rcases he with he | he
  · obtain ⟨bs, r2⟩ := Dp.reads I _ y u he ry
    exact SeqAt.in_list_data r2 r1 p2 p1 (by omega) ⟨.bl _, H, I, rfl, q⟩
  · obtain ⟨bs, r2⟩ := Dp.reads I _ y u he ry
    exact SeqAt.in_tuple_data r2 r1 p2 p1 (by omega) ⟨.bl _, H, I, rfl, q⟩
theorem op_notInP (hu : X.A.units + 64 < cLine) : OpR X (compareOp .NotIn) (rInP X.K true) := by
  intro pins s σ H x y v u Q I rx ry h
  obtain ⟨d, ds, hd, he, p1, p2, hm, q⟩ := h
  obtain ⟨as, r1⟩ := Dp.reads I d x v hd rx
  rcases he with he | he
  · obtain ⟨bs, r2⟩ := Dp.reads I _ y u he ry
    exact SeqAt.notIn_list_data r2 r1 p2 p1 (by omega) ⟨.bl _, H, I, rfl, q⟩
  · obtain ⟨bs, r2⟩ := Dp.reads I _ y u he ry
    exact SeqAt.notIn_tuple_data r2 r1 p2 p1 (by omega) ⟨.bl _, H, I, rfl, q⟩
def seqM : M → Option (List D)
  | .fz d => seqOf d
  | .ow l => some (M.frzs l)
  | .dc _ _ => none
theorem toPs_any (d : D) : ∀ ds : List D, (toPs ds).any (fun z => PyData.eqv z (toP d)) = ds.any fun z => deq z d
  | [] => rfl
  | e :: ds => by
    show (PyData.eqv (toP e) (toP d) || (toPs ds).any _) = _
    rw [toPs_any d ds]; rfl
def sIn (neg : Bool) : M → M → Option O := fun a b => (seqM b).bind fun ds => if (nd a.frz && nds ds) = true ∧ min (PyData.depthAll (toPs ds)) (toP a.frz).depth ≤ 60 then some (.ex (.bl (if neg then !(ds.any fun z => deq z a.frz) else ds.any fun z => deq z a.frz))) else none
theorem b_in (neg : Bool) : Bin K (rInP K neg) (sIn neg) := fun F H v1 m1 v2 m2 o Q h1 h2 e q => by
  unfold sIn at e
  simp only [Option.bind_eq_some_iff] at e
  obtain ⟨ds, e1, e2⟩ := e
  split at e2
  · rename_i hs
    cases e2
    obtain ⟨c, r1, _⟩ := h1
    obtain ⟨c', r2, _⟩ := h2
    obtain ⟨hs0, hs⟩ := hs
    simp only [Bool.and_eq_true] at hs0
    refine ⟨_, toPs ds, r1.dp hs0.1, ?_, toP_plain _, toPs_plain _, hs, ?_⟩
    · cases m2 with
      | fz d =>
        cases d <;> cases e1
        · exact .inr (r2.dp hs0.2)
        · exact .inl (r2.dp hs0.2)
        · exact .inl (r2.dp hs0.2)
      | ow l => cases e1; exact .inl (r2.dp hs0.2)
      | dc => cases e1
    · rw [toPs_any]
      exact q _ (.bl _)
  · cases e2

/-! ### numbers -/
def okMul (i j : Int) : Bool := decide (i.natAbs < 18446744073709551616) || decide (j.natAbs < 18446744073709551616) || decide (i.natAbs.log2 + j.natAbs.log2 < 1000000)
def sAdd : M → M → Option O
  | .fz (.int i), .fz (.int j) => some (.ex (.int (i + j)))
  | .fz (.str x), .fz (.str y) => if x.length + y.length ≤ 100000 then some (.ex (.str (x ++ y))) else none
  | .fz (.tup a), .fz (.tup b) => if a.length + b.length ≤ 100000 then (if a.isEmpty then some (.ex (.tup b)) else if b.isEmpty then some (.ex (.tup a)) else some (.nt (a ++ b))) else none
  | a, b => (asLH a).bind fun x => (asLH b).bind fun y => if x.length + y.length ≤ 100000 then some (.nl (x ++ y)) else none
def rAddA (K : PySem.W.Frag) : R2 := fun x y H Q => (rI0 (fun i j => .int (i + j)) x y H Q ∨ (∃ i j, x = .str i ∧ y = .str j ∧ i.length + j.length ≤ sizeLine ∧ Q (.str (i ++ j)) H)) ∨ rCatA K x y H Q ∨ rCat x y H Q
theorem op_addA : OpR X (binaryOp .Add) (rAddA X.K) := (op_add.or op_add_str).or (op_catA.or op_cat)
theorem k100000' {n : Nat} (h : n ≤ 100000) : n ≤ sizeLine := Nat.le_of_lt (k100000 h)
theorem b_add : Bin K (rAddA K) sAdd := fun F H v1 m1 v2 m2 o Q h1 h2 e q => by
  unfold sAdd at e
  split at e
  · cases e
    exact .inl (.inl ⟨_, _, rInt h1, rInt h2, q _ (.int _)⟩)
  · split at e
    · rename_i hl
      cases e
      exact .inl (.inr ⟨_, _, rStr h1, rStr h2, k100000' hl, q _ (.str _)⟩)
    · cases e
  · rename_i a b
    split at e
    · rename_i hl
      obtain ⟨a1, xs, e1, q1, r1⟩ := rTup h1
      obtain ⟨a2, ys, e2, q2, r2⟩ := rTup h2
      have l1 := r1.len
      have l2 := r2.len
      refine .inr (.inl ⟨a1, a2, xs, ys, e1, e2, q1, q2, by rw [l1, l2]; exact k100000' hl, fun z => ?_, fun z1 z2 => ?_, fun z1 z2 p hp => ?_⟩)
      · subst z
        cases r1
        simp at e
        subst e
        exact q _ (.tup q2 r2)
      · subst z2
        cases r2
        have : a ≠ [] := fun z => by subst z; cases r1; exact z1 rfl
        cases a with
        | nil => exact absurd rfl this
        | cons x a => simp at e; subst e; exact q _ (.tup q1 r1)
      · have t1 : a ≠ [] := fun z => by subst z; cases r1; exact z1 rfl
        have t2 : b ≠ [] := fun z => by subst z; cases r2; exact z2 rfl
        cases a with
        | nil => exact absurd rfl t1
        | cons x a =>
          cases b with
          | nil => exact absurd rfl t2
          | cons y b => simp at e; subst e; exact q p _ (r1.app r2) hp
    · cases e
  · simp only [Option.bind_eq_some_iff] at e
    obtain ⟨x, e1, y, e2, e3⟩ := e
    split at e3
    · rename_i hl
      cases e3
      obtain ⟨a1, xs, z1, q1, r1⟩ := rLH h1 e1
      obtain ⟨a2, ys, z2, q2, r2⟩ := rLH h2 e2
      exact .inr (.inr ⟨a1, a2, xs, ys, z1, z2, q1, q2, by rw [r1.len, r2.len]; exact k100000' hl, fun p hp => q p _ (r1.app r2) hp⟩)
    · cases e3
def sI (C : Int → Int → Bool) (g : Int → Int → D) : M → M → Option O
  | .fz (.int i), .fz (.int j) => if C i j then some (.ex (g i j)) else none
  | _, _ => none
theorem b_I {C : Int → Int → Prop} {C' : Int → Int → Bool} {g : Int → Int → Int} (h : ∀ i j, C' i j = true → C i j) : Bin K (rI C fun i j => .int (g i j)) (sI C' fun i j => .int (g i j)) := fun F H v1 m1 v2 m2 o Q h1 h2 e q => by
  unfold sI at e
  split at e
  · split at e
    · rename_i hc
      cases e
      exact ⟨_, _, rInt h1, rInt h2, h _ _ hc, q _ (.int _)⟩
    · cases e
  · cases e
theorem b_I0 {g : Int → Int → Bool} : Bin K (rI0 fun i j => .bl (g i j)) (sI (fun _ _ => true) fun i j => .bl (g i j)) := fun F H v1 m1 v2 m2 o Q h1 h2 e q => by
  unfold sI at e
  split at e
  · cases e
    exact ⟨_, _, rInt h1, rInt h2, q _ (.bl _)⟩
  · cases e
def sSub : M → M → Option O := sI (fun _ _ => true) fun i j => .int (i - j)
theorem b_sub : Bin K (rI0 fun i j => .int (i - j)) sSub := fun F H v1 m1 v2 m2 o Q h1 h2 e q => by
  unfold sSub sI at e
  split at e
  · cases e
    exact ⟨_, _, rInt h1, rInt h2, q _ (.int _)⟩
  · cases e
theorem tuple_mul1 (l : Addr) (items : Array Value) (n : Nat) (dd : Option Addr) (sl : Array (Option Value)) (x : Int) (u : Tok) (c0 : (decide (x < -(2 ^ 63)) || decide (x ≥ 2 ^ 63)) = false) (c1 : (items.isEmpty || x == 1) = true) :
    Meets (Builtin.«tuple.__mul__» ⟨[.ref l, .int x u], []⟩) (fun _ R s => s.heap.get? l = some { cls := .type "tuple", dict := dd, data := .seq items n, slots := sl } ∧
      R (.ok (.ret (Value.ref l))) s) :=
  .of_wp fun prog w A R s h => by
    obtain ⟨hp, g, d, tk, os⟩ := s
    obtain ⟨hl, h⟩ := h
    have f1 := AutoSeq1.idx_int
    wp_walk using PySem.AutoSeq1.wpAny_loadPart' hl
    repeat (first
      | (refine wpAny_ite_false (decide_eq_false (by rw [c0]; exact Bool.false_ne_true)) ?_; wp_walk using PySem.AutoSeq1.wpAny_loadPart' hl)
      | (refine wpAny_ite_true (decide_eq_true (by rw [c1])) ?_; wp_walk using PySem.AutoSeq1.wpAny_loadPart' hl))
    exact ⟨_, rfl, h⟩
def rRep1 (K : PySem.W.Frag) : R2 := fun x y H Q => ∃ l k xs, x = .ref l ∧ y = .int k ∧ SqT K H l xs ∧ (k = 1 ∨ xs = []) ∧ -1000000 ≤ k ∧ k ≤ 1000000 ∧ Q (.ref l) H
theorem op_rep1 {X : Cx} : OpR X (binaryOp .Mult) (rRep1 X.K) := by
  intro pins s σ H x y v u Q I rx ry h
  obtain ⟨l, k, xs, rfl, rfl, hT, hne, h1, h2, q⟩ := h
  cases rx
  obtain ⟨t, rfl⟩ := ry
  obtain ⟨its, r, ⟨⟨cls, dd, data, sl⟩, ho, hc, n, hd⟩, hs⟩ := I.tuple hT
  simp only at hc hd
  subst hc hd
  have hle : its.length = xs.length := r.length.symm
  have c0 : (decide (k < -(2 ^ 63)) || decide (k ≥ 2 ^ 63)) = false := by
    rw [decide_eq_false (by omega), decide_eq_false (by omega)] <;> rfl
  have c1 : (its.toArray.isEmpty || k == 1) = true := by
    rcases hne with e | e
    · subst e; simp
    · subst e
      have : its = [] := List.eq_nil_of_length_eq_zero hle
      subst this; rfl
  exact wpAny_binaryOp_repeat_ref (T := "tuple") (U := "int") (by decide) ⟨_, ho, rfl⟩ (fun s' => typeIs_int s' k t) noFill_tuple_mul F.fills_int_mul F.slot_int_rmul repeat_tuple F.slot_int_index.lookup
    (call_meets F.slot_int_rmul (typeIs_int s k t) F.entry_int_rmul (F.args_int_rmul_2 _ _) (int_rmul_tuple k t l its.toArray n dd sl)
      ⟨ho, rfl, ⟨_, ho, rfl⟩, call_meets F.slot_tuple_mul ⟨_, ho, rfl⟩ F.entry_tuple_mul (F.args_tuple_mul_2 _ _) (tuple_mul1 l its.toArray n dd sl k t c0 c1) ⟨ho, ⟨.ref l, H, I, rfl, q⟩⟩⟩)
def sMul : M → M → Option O
  | .fz (.int i), .fz (.int j) => if okMul i j then some (.ex (.int (i * j))) else none
  | .fz (.tup l), .fz (.int k) => if (decide (k = 1) || l.isEmpty) && decide (-1000 ≤ k) && decide (k ≤ 1000) then some (.ex (.tup l)) else if decide (2 ≤ k) && decide (k ≤ 1000) && decide (l.length ≤ 1000) && !l.isEmpty then some (.nt (List.replicate k.toNat l).flatten) else none
  | a, .fz (.int k) => (asLH a).bind fun l => if decide (k ≤ 100000) && decide (-100000 ≤ k) && decide (l.length * k.toNat ≤ 100000) then some (.nl (List.replicate k.toNat l).flatten) else none
  | _, _ => none
def rMulA (K : PySem.W.Frag) : R2 := fun x y H Q => (rI CMul (fun i j => .int (i * j)) x y H Q ∨ rI CMulW (fun i j => .int (i * j)) x y H Q) ∨ (rRep1 K x y H Q ∨ rRepT K x y H Q) ∨ rRep x y H Q
theorem op_mulA : OpR X (binaryOp .Mult) (rMulA X.K) := (op_mul.or op_mulW).or ((op_rep1.or op_repT).or op_rep)
theorem b_mul : Bin K (rMulA K) sMul := fun F H v1 m1 v2 m2 o Q h1 h2 e q => by
  unfold sMul at e
  split at e
  · rename_i i j
    split at e
    · rename_i hc
      cases e
      unfold okMul at hc
      simp only [Bool.or_eq_true, decide_eq_true_eq] at hc
      rcases hc with (hc | hc) | hc
      · exact .inl (.inl ⟨_, _, rInt h1, rInt h2, .inl ⟨by omega, by omega⟩, q _ (.int _)⟩)
      · exact .inl (.inl ⟨_, _, rInt h1, rInt h2, .inr ⟨by omega, by omega⟩, q _ (.int _)⟩)
      · exact .inl (.inr ⟨_, _, rInt h1, rInt h2, hc, q _ (.int _)⟩)
    · cases e
  · rename_i l k
    split at e
    · rename_i hc
      cases e
      simp only [Bool.and_eq_true, Bool.or_eq_true, decide_eq_true_eq] at hc
      obtain ⟨⟨c1, c2⟩, c3⟩ := hc
      obtain ⟨a1, xs, e1, q1, r1⟩ := rTup h1
      subst e1
      refine .inr (.inl (.inl ⟨a1, k, xs, rfl, rInt h2, q1, ?_, by omega, by omega, q _ (.tup q1 r1)⟩))
      rcases c1 with c1 | c1
      · exact .inl c1
      · refine .inr ?_
        have : l = [] := List.isEmpty_iff.mp c1
        subst this
        exact List.eq_nil_of_length_eq_zero r1.len
    split at e
    · rename_i hc
      cases e
      simp only [Bool.and_eq_true, decide_eq_true_eq] at hc
      obtain ⟨⟨⟨c1, c2⟩, c3⟩, c4⟩ := hc
      obtain ⟨a1, xs, e1, q1, r1⟩ := rTup h1
      refine .inr (.inl (.inr ⟨a1, k, xs, e1, rInt h2, q1, fun z => ?_, c1, c2, by rw [r1.len]; exact c3, fun p hp => q p _ (r1.rep _) hp⟩))
      subst z; cases r1; simp at c4
    · cases e
  · rename_i k _ _
    simp only [Option.bind_eq_some_iff] at e
    obtain ⟨l, e1, e2⟩ := e
    split at e2
    · rename_i hc
      cases e2
      simp only [Bool.and_eq_true, decide_eq_true_eq] at hc
      obtain ⟨⟨c1, c2⟩, c3⟩ := hc
      obtain ⟨a1, xs, z1, q1, r1⟩ := rLH h1 e1
      exact .inr (.inr ⟨a1, k, xs, z1, rInt h2, q1, by omega, by omega, by rw [r1.len]; exact k100000' c3, fun p hp => q p _ (r1.rep _) hp⟩)
    · cases e2
  · cases e
def sDiv : M → M → Option O := sI (fun _ j => decide (0 < j) && decide (j.natAbs.log2 < 9000)) fun i j => .int (i / j)
theorem b_div : Bin K (rI CDivW fun i j => .int (i / j)) sDiv := b_I fun i j h => by
  simp only [Bool.and_eq_true, decide_eq_true_eq] at h
  exact h
def sMod : M → M → Option O := sI (fun _ j => decide (0 < j)) fun i j => .int (i % j)
theorem b_mod : Bin K (rI (fun _ j => 0 < j) fun i j => .int (i % j)) sMod := b_I fun i j h => of_decide_eq_true h
def sPow : M → M → Option O := sI (fun i j => decide (0 ≤ j) && decide (j ≤ 1000000) && decide (i.natAbs < 18446744073709551616)) fun i j => .int (i ^ j.toNat)
theorem b_pow : Bin K (rI CPow fun i j => .int (i ^ j.toNat)) sPow := b_I fun i j h => by
  simp only [Bool.and_eq_true, decide_eq_true_eq] at h
  exact ⟨h.1.1, h.1.2, h.2⟩
def sLtI : M → M → Option O := sI (fun _ _ => true) fun i j => .bl (decide (i < j))
def sLe : M → M → Option O := sI (fun _ _ => true) fun i j => .bl (decide (i ≤ j))
def sGt : M → M → Option O := sI (fun _ _ => true) fun i j => .bl (decide (j < i))
def sGe : M → M → Option O := sI (fun _ _ => true) fun i j => .bl (decide (j ≤ i))
/-- dints, tuples of dints -/
def sLt : M → M → Option O
  | .fz (.int i), .fz (.int j) => some (.ex (.bl (decide (i < j))))
  | .fz (.tup a), .fz (.tup b) => (dints a).bind fun x => (dints b).map fun y => .ex (.bl (HT.lexLt x y))
  | _, _ => none
def rLtA (K : PySem.W.Frag) : R2 := fun x y H Q => rI0 (fun i j => .bl (decide (i < j))) x y H Q ∨ rLtT K x y H Q
theorem op_ltA (hu : X.A.units < cLine) : OpR X (compareOp .Lt) (rLtA X.K) := op_lt.or (op_ltT hu)
theorem b_lt : Bin K (rLtA K) sLt := fun F H v1 m1 v2 m2 o Q h1 h2 e q => by
  unfold sLt at e
  split at e
  · cases e
    exact .inl ⟨_, _, rInt h1, rInt h2, q _ (.bl _)⟩
  · simp only [Option.bind_eq_some_iff, Option.map_eq_some_iff] at e
    obtain ⟨x, e1, y, e2, e3⟩ := e
    subst e3
    have := dints_some e1
    subst this
    have := dints_some e2
    subst this
    obtain ⟨a1, xs, z1, q1, r1⟩ := rTup h1
    obtain ⟨a2, ys, z2, q2, r2⟩ := rTup h2
    have := rInts r1
    subst this
    have := rInts r2
    subst this
    exact .inr ⟨a1, a2, x, y, z1, z2, q1, q2, q _ (.bl _)⟩
  · cases e
/-! is -/
def isN : M → Bool
  | .fz .non => true
  | _ => false
theorem isN_ok {v : V} {m : M} (r : RMok K F H v m) : decide (v = .non) = isN m := by
  obtain ⟨c, r, _⟩ := r
  cases r with
  | fz r => cases r <;> rfl
  | ow e q => rfl
  | dc => rfl
def sIs (neg : Bool) : M → M → Option O
  | m, .fz .non => some (.ex (.bl (if neg then !isN m else isN m)))
  | .fz (.bl a), .fz (.bl b) => some (.ex (.bl (if neg then !decide (a = b) else decide (a = b))))
  | _, _ => none
def rIsA (neg : Bool) : R2 := fun x y H Q => (y = .non ∧ Q (.bl (if neg then !decide (x = .non) else decide (x = .non))) H) ∨ (∃ a b, x = .bl a ∧ y = .bl b ∧ Q (.bl (if neg then !decide (a = b) else decide (a = b))) H)
theorem op_isA : OpR X (compareOp .Is) (rIsA false) := op_isN.or op_is_bl
theorem op_isNotA : OpR X (compareOp .IsNot) (rIsA true) := op_notN.or op_isnot_bl
theorem b_is (neg : Bool) : Bin K (rIsA neg) (sIs neg) := fun F H v1 m1 v2 m2 o Q h1 h2 e q => by
  unfold sIs at e
  split at e
  · cases e
    exact .inl ⟨rNon h2, by rw [isN_ok h1]; exact q _ (.bl _)⟩
  · cases e
    exact .inr ⟨_, _, rBl h1, rBl h2, q _ (.bl _)⟩
  · cases e

/-! ### items -/
def sIx : M → M → Option O
  | .fz (.tup l), .fz (.int i) => (atI l i).map .ex
  | .fz (.str z), .fz (.int i) => if z.length ≤ 100000 then (atI z.cps.toList i).map fun c => .ex (.str ⟨#[c]⟩) else none
  | m, .fz (.int i) => (asL m).bind fun l => (atI l i).map .ex
  | _, _ => none
theorem RDs.atI {xs : List V} {ds : List D} (r : RDs K F H xs ds) {i : Int} {d : D} (h : L2.atI ds i = some d) : ∃ v, L2.atI xs i = some v ∧ RD K F H v d := by
  unfold L2.atI at h ⊢
  rw [r.len]
  simp only [Option.bind_eq_some_iff] at h
  obtain ⟨j, h1, h2⟩ := h
  obtain ⟨v, h3, h4⟩ := r.at h2
  exact ⟨v, by rw [h1]; exact h3, h4⟩
theorem b_ix : Bin K (rIx K) sIx := fun F H v1 m1 v2 m2 o Q h1 h2 e q => by
  unfold sIx at e
  split at e
  · simp only [Option.map_eq_some_iff] at e
    obtain ⟨d, e1, e2⟩ := e
    subst e2
    obtain ⟨a1, xs, z1, q1, r1⟩ := rTup h1
    obtain ⟨v, g1, g2⟩ := r1.atI e1
    exact .inr (.inl ⟨a1, xs, _, v, z1, rInt h2, q1, g1, q v g2⟩)
  · split at e
    · rename_i hl
      simp only [Option.map_eq_some_iff] at e
      obtain ⟨c, e1, e2⟩ := e
      subst e2
      exact .inr (.inr ⟨_, _, c, rStr h1, rInt h2, k100000' hl, e1, q _ (.str _)⟩)
    · cases e
  · simp only [Option.bind_eq_some_iff, Option.map_eq_some_iff] at e
    obtain ⟨l, e0, d, e1, e2⟩ := e
    subst e2
    obtain ⟨a1, xs, z1, q1, r1⟩ := rL h1 e0
    obtain ⟨v, g1, g2⟩ := r1.atI e1
    exact .inl ⟨a1, xs, _, v, z1, rInt h2, q1, g1, q v g2⟩
  · cases e
/-! slices -/
abbrev FO := Ev → Option (Option Int × Ev)
def tO (K : PySem.W.Frag) (f : FO) : TO := fun σ H Q => ∃ F τ θ ρ o ρ', SR K F H τ θ σ ρ ∧ f ρ = some (o, ρ') ∧ ∀ F' H', SR K F' H' τ θ σ ρ' → Q o H'
abbrev OX (X : Cx) (e : Option Expr) (f : FO) : Prop := PO X e (tO X.K f)
theorem PO.imp {e : Option Expr} {t u : TO} (h : PO X e t) (i : ∀ σ H Q, u σ H Q → t σ H Q) : PO X e u := ⟨fun pins s σ H Q I q => h.run pins s σ H Q I (i σ H Q q)⟩
def fONone : FO := fun ρ => some (none, ρ)
def fOSome (f : FE) : FO := fun ρ => match f ρ with
  | some (.vl (.fz (.int i)), ρ') => some (some i, ρ')
  | _ => none
theorem oNone : OX X none fONone := PO.imp po_none fun σ H Q ⟨F, τ, θ, ρ, o, ρ', s, e, q⟩ => by cases e; exact q F H s
theorem oSome {e : Expr} {f : FE} (h : EX X e f) : OX X (some e) (fOSome f) := PO.imp (po_some h) fun σ H Q ⟨F, τ, θ, ρ, o, ρ', s, e, q⟩ => by
  unfold fOSome at e
  split at e
  · cases e
    rename_i e1
    refine ⟨F, τ, θ, ρ, _, _, s, e1, fun F1 H1 v s1 _ => ?_⟩
    obtain ⟨w, e2, r⟩ := SR.topD s1
    cases e2; cases r
    exact ⟨_, rfl, q F1 H1 s1.pop⟩
  · cases e
def cutD (xs : List D) (lo hi : Option Int) : List D := (xs.drop (HT.sIx xs.length 0 lo)).take (HT.sIx xs.length xs.length hi - HT.sIx xs.length 0 lo)
def sSl : M → Option Int → Option Int → Option O
  | .fz (.tup l), lo, hi => if HT.sIx l.length 0 lo = 0 ∧ HT.sIx l.length l.length hi = l.length then some (.ex (.tup l)) else some (.nt (cutD l lo hi))
  | .fz (.str z), lo, hi => if z.length ≤ 100000 then some (.ex (.str (cutS z lo hi))) else none
  | m, lo, hi => (asL m).map fun l => .nl (cutD l lo hi)
def fSl (fe : FE) (fl fh : FO) : FE := fun ρ => (fe ρ).bind fun a => (fl a.2).bind fun l => (fh l.2).bind fun h => (a.1.look h.2).bind fun m => (sSl m l.1 h.1).map fun o => (.vl o.m, h.2)
def rSlA2 (K : PySem.W.Frag) : V → Option Int → Option Int → Hp → VK → Prop := fun x lo hi H Q => rSlA K x lo hi H Q ∨ rSlL K x lo hi H Q
theorem cut_RDs {xs : List V} {ds : List D} (r : RDs K F H xs ds) (lo hi : Option Int) : RDs K F H (cutV xs lo hi) (cutD ds lo hi) := by
  unfold cutV cutD
  rw [r.len]
  exact (r.dr _).tk _
theorem eSl {e : Expr} {fe : FE} {lo hi : Option Expr} {fl fh : FO} {p2 pos : Pos} (he : EX X e fe) (hl : OX X lo fl) (hh : OX X hi fh) : EX X (.Subscript e (.Slice lo hi none p2) pos) (fSl fe fl fh) :=
  PE.imp (pe_slice (SlR.or (SlR.or sl_tupA sl_list) sl_str) he hl hh) fun σ H Q ⟨F, τ, θ, ρ, r', ρ', s, e, q⟩ => by
  unfold fSl at e
  simp only [Option.bind_eq_some_iff, Option.map_eq_some_iff] at e
  obtain ⟨⟨r1, ρ1⟩, e1, ⟨l, ρ2⟩, e2, ⟨h, ρ3⟩, e3, m, e4, o, e5, e6⟩ := e
  cases e6
  refine ⟨F, τ, θ, ρ, r1, ρ1, s, e1, fun F1 H1 v1 s1 o1 => ⟨F1, _, _, ρ1, l, ρ2, s1, e2, fun F2 H2 s2 => ⟨F2, _, _, ρ2, h, ρ3, s2, e3, fun F3 H3 s3 => ?_⟩⟩⟩
  have rm := s3.look o1 e4
  have fin := s3.pop.res (o := o) (Q := Q) fun F' H' v s' => q F' H' v s' trivial
  unfold sSl at e5
  split at e5
  · rename_i l' _ _
    obtain ⟨a1, xs, z1, q1, rr⟩ := rTup rm
    refine .inl (.inl ⟨a1, xs, z1, q1, fun hw => ?_, fun hw p hp => ?_⟩)
    · rw [rr.len] at hw
      rw [if_pos hw] at e5
      cases e5
      exact fin _ (.tup q1 rr)
    · rw [rr.len] at hw
      rw [if_neg hw] at e5
      cases e5
      exact fin p _ (cut_RDs rr _ _) hp
  · split at e5
    · rename_i hl
      cases e5
      exact .inr ⟨_, rStr rm, k100000' hl, fin _ (.str _)⟩
    · cases e5
  · simp only [Option.map_eq_some_iff] at e5
    obtain ⟨l', e7, e8⟩ := e5
    subst e8
    obtain ⟨a1, xs, z1, q1, rr⟩ := rL rm e7
    exact .inl (.inr ⟨a1, xs, z1, q1, fun p hp => fin p _ (cut_RDs rr _ _) hp⟩)
/-- xs[::-1] of a list -/
def fRevL (fe : FE) : FE := fun ρ => (fe ρ).bind fun a => (a.1.look a.2).bind fun m => (asL m).map fun l => (.vl (.ow (l.reverse.map .fz)), a.2)
theorem eRevL {e : Expr} {fe : FE} {k : Nat} {p1 p2 p3 pos : Pos} (he : EX X e fe) : EX X (.Subscript e (.Slice none none (some (.UnaryOp .USub (.Constant (.int 1) k p1) p2)) p3) pos) (fRevL fe) := PE.imp (pe_revL he) fun σ H Q ⟨F, τ, θ, ρ, r', ρ', s, e, q⟩ => by
  unfold fRevL at e
  simp only [Option.bind_eq_some_iff, Option.map_eq_some_iff] at e
  obtain ⟨⟨r1, ρ1⟩, e1, m, e2, l, e3, e4⟩ := e
  cases e4
  refine ⟨F, τ, θ, ρ, r1, ρ1, s, e1, fun F1 H1 v1 s1 o1 => ?_⟩
  obtain ⟨a1, xs, z1, q1, rr⟩ := rL (s1.look o1 e2) e3
  have fin := s1.pop.res (o := .nl l.reverse) (Q := Q) fun F' H' v s' => q F' H' v s' trivial
  exact ⟨a1, xs, z1, q1, fun p hp => fin p _ rr.rev hp⟩
/-! -n -/
def fNeg (fe : FE) : FE := fun ρ => match fe ρ with
  | some (.vl (.fz (.int i)), ρ') => some (.vl (.fz (.int (-i))), ρ')
  | _ => none
theorem eNeg {e : Expr} {fe : FE} {pos : Pos} (he : EX X e fe) : EX X (.UnaryOp .USub e pos) (fNeg fe) := PE.imp (pe_un un_neg he) fun σ H Q ⟨F, τ, θ, ρ, r', ρ', s, e, q⟩ => by
  unfold fNeg at e
  split at e
  · cases e
    rename_i e1
    refine ⟨F, τ, θ, ρ, _, _, s, e1, fun F1 H1 v s1 _ => ?_⟩
    obtain ⟨w, e2, r⟩ := SR.topD s1
    cases e2; cases r
    exact ⟨_, rfl, q F1 H1 _ (s1.pop.push (.int _)) trivial⟩
  · cases e
end
end Dv

set_option Elab.async false
set_option linter.all false
set_option maxRecDepth 100000
set_option maxHeartbeats 4000000
namespace Dv
open PySem PySem.Spec PyProof.Rows L2

section
variable {X : Cx} {K : PySem.W.Frag} {F F' : Addr → Prop} {H H' : Hp}
/-! ### built-ins of one, of two -/
def s1 (g : M → Option O) : List M → Option O := fun ms => match ms with
  | [m] => g m
  | _ => none
def s2 (g : M → M → Option O) : List M → Option O := fun ms => match ms with
  | [m, n] => g m n
  | _ => none
theorem c_1 {r : List V → Hp → VK → Prop} {g : M → Option O} (h : ∀ F H v m o Q, RMok K F H v m → g m = some o → Res K F H o Q → r [v] H Q) : CSem K r (s1 g) := fun F H vs ms o Q hr e q => by
  unfold s1 at e
  split at e
  · cases hr with
    | cons r1 r2 => cases r2; exact h F H _ _ o Q r1 e q
  · cases e
theorem c_2 {r : List V → Hp → VK → Prop} {g : M → M → Option O} (h : ∀ F H v m v' m' o Q, RMok K F H v m → RMok K F H v' m' → g m m' = some o → Res K F H o Q → r [v, v'] H Q) : CSem K r (s2 g) := fun F H vs ms o Q hr e q => by
  unfold s2 at e
  split at e
  · cases hr with
    | cons r1 r2 => cases r2 with | cons r2 r3 => cases r3; exact h F H _ _ _ _ o Q r1 r2 e q
  · cases e
def gLen : M → Option O
  | .fz (.tup l) => some (.ex (.int l.length))
  | .fz (.str x) => if x.length ≤ 100000 then some (.ex (.int x.length)) else none
  | .fz (.lst l) => some (.ex (.int l.length))
  | .fz (.rol l) => some (.ex (.int l.length))
  | .ow l => some (.ex (.int l.length))
  | _ => none
theorem c_len : CSem K (fun xs H Q => ∃ x n, xs = [x] ∧ LenV K x H n ∧ Q (.int n) H) (s1 gLen) := c_1 fun F H v m o Q r e q => by
  unfold gLen at e
  split at e
  · cases e
    obtain ⟨a, xs, e1, q1, r1⟩ := rTup r
    subst e1
    exact ⟨_, _, rfl, .inr ⟨xs, q1, rfl⟩, by rw [r1.len]; exact q _ (.int _)⟩
  · split at e
    · rename_i x hl
      cases e
      have := rStr r
      subst this
      exact ⟨_, _, rfl, ⟨k100000' hl, rfl⟩, q _ (.int _)⟩
    · cases e
  · cases e
    obtain ⟨a, xs, e1, q1, r1⟩ := rL r rfl
    subst e1
    exact ⟨_, _, rfl, .inl ⟨xs, q1, rfl⟩, by rw [r1.len]; exact q _ (.int _)⟩
  · cases e
    obtain ⟨a, xs, e1, q1, r1⟩ := rL r rfl
    subst e1
    exact ⟨_, _, rfl, .inl ⟨xs, q1, rfl⟩, by rw [r1.len]; exact q _ (.int _)⟩
  · cases e
    obtain ⟨c, rr, _⟩ := r
    cases rr with
    | ow ha hm => exact ⟨_, _, rfl, .inl ⟨_, .inl (.inl ha), rfl⟩, by rw [hm.len]; exact q _ (.int _)⟩
  · cases e
def gAbs : M → Option O
  | .fz (.int i) => some (.ex (.int (if i < 0 then -i else i)))
  | _ => none
theorem c_abs : CSem K (fun xs H Q => ∃ i, xs = [.int i] ∧ Q (.int (if i < 0 then -i else i)) H) (s1 gAbs) := c_1 fun F H v m o Q r e q => by
  unfold gAbs at e
  split at e
  · cases e
    exact ⟨_, by rw [rInt r], q _ (.int _)⟩
  · cases e
def gMax2 : M → M → Option O
  | .fz (.int i), .fz (.int j) => some (.ex (.int (if j > i then j else i)))
  | _, _ => none
theorem c_max2 : CSem K (fun xs H Q => ∃ i j, xs = [.int i, .int j] ∧ Q (.int (if j > i then j else i)) H) (s2 gMax2) := c_2 fun F H v m v' m' o Q r r' e q => by
  unfold gMax2 at e
  split at e
  · cases e
    exact ⟨_, _, by rw [rInt r, rInt r'], q _ (.int _)⟩
  · cases e
def gMin2 : M → M → Option O
  | .fz (.int i), .fz (.int j) => some (.ex (.int (if j < i then j else i)))
  | _, _ => none
theorem c_min2 : CSem K (fun xs H Q => ∃ i j, xs = [.int i, .int j] ∧ Q (.int (if j < i then j else i)) H) (s2 gMin2) := c_2 fun F H v m v' m' o Q r r' e q => by
  unfold gMin2 at e
  split at e
  · cases e
    exact ⟨_, _, by rw [rInt r, rInt r'], q _ (.int _)⟩
  · cases e
def gInt : M → Option O
  | .fz (.int i) => some (.ex (.int i))
  | .fz (.bl b) => some (.ex (.int (if b then 1 else 0)))
  | _ => none
theorem c_int : CSem K (fun xs H Q => (∃ i, xs = [.int i] ∧ Q (.int i) H) ∨ ∃ k, xs = [.bl k] ∧ Q (.int (if k then 1 else 0)) H) (s1 gInt) := c_1 fun F H v m o Q r e q => by
  unfold gInt at e
  split at e
  · cases e
    exact .inl ⟨_, by rw [rInt r], q _ (.int _)⟩
  · cases e
    exact .inr ⟨_, by rw [rBl r], q _ (.int _)⟩
  · cases e
/-- a list of ints -/
def asI (m : M) : Option (List Int) := (asL m).bind dints
theorem rI' {v : V} {m : M} {ns : List Int} (r : RMok K F H v m) (h : asI m = some ns) : ∃ a, v = .ref a ∧ SqL K H a (ns.map .int) := by
  unfold asI at h
  simp only [Option.bind_eq_some_iff] at h
  obtain ⟨l, e1, e2⟩ := h
  have := dints_some e2
  subst this
  obtain ⟨a, xs, z, q, rs⟩ := rL r e1
  have := rInts rs
  subst this
  exact ⟨a, z, q⟩
def gSum (m : M) : Option O := (asI m).map fun ns => .ex (.int ns.sum)
theorem c_sum : CSem K (rSum K) (s1 gSum) := c_1 fun F H v m o Q r e q => by
  unfold gSum at e
  simp only [Option.map_eq_some_iff] at e
  obtain ⟨ns, e1, e2⟩ := e
  subst e2
  obtain ⟨a, z, qq⟩ := rI' r e1
  exact ⟨a, ns, by rw [z], qq, q _ (.int _)⟩
def lmax : List Int → Option Int
  | [] => none
  | i :: l => some (l.foldl max i)
def lmin : List Int → Option Int
  | [] => none
  | i :: l => some (l.foldl min i)
theorem foldl_max : ∀ (l : List Int) (i : Int), (l.foldl max i = i ∨ l.foldl max i ∈ l) ∧ i ≤ l.foldl max i ∧ ∀ y ∈ l, y ≤ l.foldl max i
  | [], i => ⟨.inl rfl, Int.le_refl _, fun y h => by simp at h⟩
  | j :: l, i => by
    obtain ⟨h1, h2, h3⟩ := foldl_max l (max i j)
    refine ⟨?_, by show i ≤ l.foldl max (max i j); omega, fun y hy => ?_⟩
    · show l.foldl max (max i j) = i ∨ l.foldl max (max i j) ∈ j :: l
      rcases h1 with h1 | h1
      · rw [h1]
        by_cases c : i ≤ j
        · right; rw [Int.max_eq_right c]; exact List.mem_cons_self
        · left; omega
      · exact .inr (List.mem_cons_of_mem _ h1)
    · show y ≤ l.foldl max (max i j)
      rcases List.mem_cons.mp hy with e | hy
      · subst e; omega
      · exact h3 y hy
theorem foldl_min : ∀ (l : List Int) (i : Int), (l.foldl min i = i ∨ l.foldl min i ∈ l) ∧ l.foldl min i ≤ i ∧ ∀ y ∈ l, l.foldl min i ≤ y
  | [], i => ⟨.inl rfl, Int.le_refl _, fun y h => by simp at h⟩
  | j :: l, i => by
    obtain ⟨h1, h2, h3⟩ := foldl_min l (min i j)
    refine ⟨?_, by show l.foldl min (min i j) ≤ i; omega, fun y hy => ?_⟩
    · show l.foldl min (min i j) = i ∨ l.foldl min (min i j) ∈ j :: l
      rcases h1 with h1 | h1
      · rw [h1]
        by_cases c : j ≤ i
        · right; rw [Int.min_eq_right c]; exact List.mem_cons_self
        · left; omega
      · exact .inr (List.mem_cons_of_mem _ h1)
    · show l.foldl min (min i j) ≤ y
      rcases List.mem_cons.mp hy with e | hy
      · subst e; omega
      · exact h3 y hy
theorem lmax_ok {ns : List Int} {m : Int} (h : lmax ns = some m) : m ∈ ns ∧ ∀ y ∈ ns, y ≤ m := by
  cases ns with
  | nil => cases h
  | cons i l =>
    have e : l.foldl max i = m := Option.some.inj h
    subst e
    obtain ⟨h1, h2, h3⟩ := foldl_max l i
    exact ⟨by rcases h1 with h1 | h1; rw [h1]; exact List.mem_cons_self; exact List.mem_cons_of_mem _ h1, fun y hy => by
      rcases List.mem_cons.mp hy with e | hy
      · subst e; exact h2
      · exact h3 y hy⟩
theorem lmin_ok {ns : List Int} {m : Int} (h : lmin ns = some m) : m ∈ ns ∧ ∀ y ∈ ns, m ≤ y := by
  cases ns with
  | nil => cases h
  | cons i l =>
    have e : l.foldl min i = m := Option.some.inj h
    subst e
    obtain ⟨h1, h2, h3⟩ := foldl_min l i
    exact ⟨by rcases h1 with h1 | h1; rw [h1]; exact List.mem_cons_self; exact List.mem_cons_of_mem _ h1, fun y hy => by
      rcases List.mem_cons.mp hy with e | hy
      · subst e; exact h2
      · exact h3 y hy⟩
def gMax (m : M) : Option O := (asI m).bind fun ns => (lmax ns).map fun i => .ex (.int i)
def gMin (m : M) : Option O := (asI m).bind fun ns => (lmin ns).map fun i => .ex (.int i)
theorem c_max : CSem K (rMax K) (s1 gMax) := c_1 fun F H v m o Q r e q => by
  unfold gMax at e
  simp only [Option.bind_eq_some_iff, Option.map_eq_some_iff] at e
  obtain ⟨ns, e1, i, e2, e3⟩ := e
  subst e3
  obtain ⟨a, z, qq⟩ := rI' r e1
  obtain ⟨h1, h2⟩ := lmax_ok e2
  refine ⟨a, ns, by rw [z], qq, List.length_pos_of_mem h1, fun j hj hm => ?_⟩
  have : j = i := Int.le_antisymm (h2 j hj) (hm i h1)
  subst this
  exact q _ (.int _)
theorem c_min : CSem K (rMin K) (s1 gMin) := c_1 fun F H v m o Q r e q => by
  unfold gMin at e
  simp only [Option.bind_eq_some_iff, Option.map_eq_some_iff] at e
  obtain ⟨ns, e1, i, e2, e3⟩ := e
  subst e3
  obtain ⟨a, z, qq⟩ := rI' r e1
  obtain ⟨h1, h2⟩ := lmin_ok e2
  refine ⟨a, ns, by rw [z], qq, List.length_pos_of_mem h1, fun j hj hm => ?_⟩
  have : j = i := Int.le_antisymm (hm i h1) (h2 j hj)
  subst this
  exact q _ (.int _)
/-- ints in order -/
def ins (i : Int) : List Int → List Int
  | [] => [i]
  | j :: l => if i ≤ j then i :: j :: l else j :: ins i l
def isort : List Int → List Int
  | [] => []
  | i :: l => ins i (isort l)
theorem ins_perm (i : Int) : ∀ l : List Int, (ins i l).Perm (i :: l)
  | [] => .refl _
  | j :: l => by
    unfold ins
    split
    · exact .refl _
    · exact ((ins_perm i l).cons j).trans (.swap i j l)
theorem isort_perm : ∀ l : List Int, (isort l).Perm l
  | [] => .refl _
  | i :: l => (ins_perm i (isort l)).trans ((isort_perm l).cons i)
theorem ins_sorted (i : Int) : ∀ l : List Int, l.Pairwise (· ≤ ·) → (ins i l).Pairwise (· ≤ ·)
  | [], _ => by simp [ins]
  | j :: l, h => by
    rw [List.pairwise_cons] at h
    unfold ins
    split
    · rename_i hij
      exact .cons (fun y hy => by rcases List.mem_cons.mp hy with e | hy; subst e; exact hij; exact Int.le_trans hij (h.1 y hy)) (.cons h.1 h.2)
    · rename_i hij
      refine .cons (fun y hy => ?_) (ins_sorted i l h.2)
      rcases List.mem_cons.mp ((ins_perm i l).mem_iff.mp hy) with e | hy
      · subst e; omega
      · exact h.1 y hy
theorem isort_sorted : ∀ l : List Int, (isort l).Pairwise (· ≤ ·)
  | [] => .nil
  | i :: l => ins_sorted i _ (isort_sorted l)
def gSorted (m : M) : Option O := (asI m).map fun ns => .nl ((isort ns).map .int)
theorem c_sorted : CSem K (rSortedI K) (s1 gSorted) := c_1 fun F H v m o Q r e q => by
  unfold gSorted at e
  simp only [Option.map_eq_some_iff] at e
  obtain ⟨ns, e1, e2⟩ := e
  subst e2
  obtain ⟨a, z, qq⟩ := rI' r e1
  refine ⟨a, ns, by rw [z], qq, fun ns' p hp hs hf => ?_⟩
  have : ns' = isort ns := PySem.W.ksm_same (hp.trans (isort_perm ns).symm) hs (isort_sorted ns)
  subst this
  exact q p _ (RDs.ofInts _) hf
def asB (m : M) : Option (List Bool) := (asL m).bind dbls
theorem rB' {v : V} {m : M} {ns : List Bool} (r : RMok K F H v m) (h : asB m = some ns) : ∃ a, v = .ref a ∧ SqL K H a (ns.map .bl) := by
  unfold asB at h
  simp only [Option.bind_eq_some_iff] at h
  obtain ⟨l, e1, e2⟩ := h
  have := dbls_some e2
  subst this
  obtain ⟨a, xs, z, q, rs⟩ := rL r e1
  have := rBls rs
  subst this
  exact ⟨a, z, q⟩
def gAll (m : M) : Option O := (asB m).map fun bs => .ex (.bl (bs.all id))
def gAny (m : M) : Option O := (asB m).map fun bs => .ex (.bl (bs.any id))
theorem c_all : CSem K (rAll K) (s1 gAll) := c_1 fun F H v m o Q r e q => by
  unfold gAll at e
  simp only [Option.map_eq_some_iff] at e
  obtain ⟨ns, e1, e2⟩ := e
  subst e2
  obtain ⟨a, z, qq⟩ := rB' r e1
  exact ⟨a, ns, by rw [z], qq, q _ (.bl _)⟩
theorem c_any : CSem K (rAny K) (s1 gAny) := c_1 fun F H v m o Q r e q => by
  unfold gAny at e
  simp only [Option.map_eq_some_iff] at e
  obtain ⟨ns, e1, e2⟩ := e
  subst e2
  obtain ⟨a, z, qq⟩ := rB' r e1
  exact ⟨a, ns, by rw [z], qq, q _ (.bl _)⟩
def gTuple : M → Option O
  | .fz (.tup l) => some (.ex (.tup l))
  | m => (asL m).map .nt
theorem c_tuple : CSem K (fun xs H Q => ∃ p ys, xs = [.ref p] ∧ ((SqL K H p ys ∧ ∀ l, H l = none → Q (.ref l) (upd H l (.tup ys))) ∨ (SqT K H p ys ∧ Q (.ref p) H))) (s1 gTuple) := c_1 fun F H v m o Q r e q => by
  unfold gTuple at e
  split at e
  · cases e
    obtain ⟨a, xs, e1, q1, r1⟩ := rTup r
    exact ⟨a, xs, by rw [e1], .inr ⟨q1, q _ (.tup q1 r1)⟩⟩
  · simp only [Option.map_eq_some_iff] at e
    obtain ⟨l, e1, e2⟩ := e
    subst e2
    obtain ⟨a, xs, z, q1, r1⟩ := rL r e1
    exact ⟨a, xs, by rw [z], .inl ⟨q1, fun p hp => q p _ r1 hp⟩⟩
def gList : M → Option O
  | .fz (.tup l) => some (.nl l)
  | m => (asL m).map .nl
theorem c_list : CSem K (fun xs H Q => ∃ p ys, xs = [.ref p] ∧ (SqL K H p ys ∨ SqT K H p ys) ∧ ∀ l, H l = none → Q (.ref l) (upd H l (.lst ys))) (s1 gList) := c_1 fun F H v m o Q r e q => by
  unfold gList at e
  split at e
  · cases e
    obtain ⟨a, xs, e1, q1, r1⟩ := rTup r
    exact ⟨a, xs, by rw [e1], .inr q1, fun p hp => q p _ r1 hp⟩
  · simp only [Option.map_eq_some_iff] at e
    obtain ⟨l, e1, e2⟩ := e
    subst e2
    obtain ⟨a, xs, z, q1, r1⟩ := rL r e1
    exact ⟨a, xs, by rw [z], .inl q1, fun p hp => q p _ r1 hp⟩

/-! ### list(range(..)), tuple(range(..)) -/
abbrev FR := Ev → Option (Int × Int × Ev)
def tR (K : PySem.W.Frag) (f : FR) : L2.St → Hp → (Int → Int → Hp → Prop) → Prop := fun σ H Q => ∃ F τ θ ρ i j ρ', SR K F H τ θ σ ρ ∧ f ρ = some (i, j, ρ') ∧ ∀ F' H', SR K F' H' τ θ σ ρ' → Q i j H'
abbrev RX (X : Cx) (e : Expr) (f : FR) : Prop := PRg X e (tR X.K f)
theorem PRg.imp {e : Expr} {t u : L2.St → Hp → (Int → Int → Hp → Prop) → Prop} (h : PRg X e t) (i : ∀ σ H Q, u σ H Q → t σ H Q) : PRg X e u := fun pins s σ H Q I q => h pins s σ H Q I (i σ H Q q)
def fR1 (f : FE) : FR := fun ρ => match f ρ with
  | some (.vl (.fz (.int j)), ρ') => some (0, j, ρ')
  | _ => none
theorem rX1 {a : Expr} {f : FE} {p pos : Pos} (hg : Gl X "range") (hm : X.mg "range" = none) (ha : EX X a f) (na : starEach [a] X.env = (false, eval a X.env) :: starEach [] X.env := by rfl) : RX X (.Call (.Name "range" p) [a] [] pos) (fR1 f) :=
  PRg.imp (prg_1 hg hm ha na) fun σ H Q ⟨F, τ, θ, ρ, i, j, ρ', s, e, q⟩ => by
  unfold fR1 at e
  split at e
  · cases e
    rename_i e1
    refine ⟨F, τ, θ, ρ, _, _, s, e1, fun F1 H1 v s1 _ => ?_⟩
    obtain ⟨w, e2, r⟩ := SR.topD s1
    cases e2; cases r
    exact ⟨_, rfl, q F1 H1 s1.pop⟩
  · cases e
def fR2 (f g : FE) : FR := fun ρ => match f ρ with
  | some (.vl (.fz (.int i)), ρ1) => match g ρ1 with
    | some (.vl (.fz (.int j)), ρ') => some (i, j, ρ')
    | _ => none
  | _ => none
theorem rX2 {a b : Expr} {f g : FE} {p pos : Pos} (hg : Gl X "range") (hm : X.mg "range" = none) (ha : EX X a f) (hb : EX X b g) (na : starEach [a, b] X.env = (false, eval a X.env) :: starEach [b] X.env := by rfl) (nb : starEach [b] X.env = (false, eval b X.env) :: starEach [] X.env := by rfl) (hpl : (backTo pos (starEach [b] X.env)).any (·.1) = false := by rfl) : RX X (.Call (.Name "range" p) [a, b] [] pos) (fR2 f g) :=
  PRg.imp (prg_2 hg hm ha hb na nb hpl) fun σ H Q ⟨F, τ, θ, ρ, i, j, ρ', s, e, q⟩ => by
  unfold fR2 at e
  split at e
  · rename_i e1
    split at e
    · rename_i e2
      cases e
      refine ⟨F, τ, θ, ρ, _, _, s, e1, fun F1 H1 v s1 _ => ⟨F1, _, _, _, _, _, s1, e2, fun F2 H2 w s2 _ => ?_⟩⟩
      obtain ⟨w, e3, r⟩ := SR.topD s2
      cases e3; cases r
      obtain ⟨w, e3, r⟩ := SR.topD s2.pop
      cases e3; cases r
      exact ⟨_, _, rfl, rfl, q F2 H2 s2.pop.pop⟩
    · cases e
  · cases e
def inR2 (i j : Int) : Bool := decide (-100000 ≤ i) && decide (i ≤ 100000) && decide (-100000 ≤ j) && decide (j ≤ 100000)
theorem RDs.ofRg (a b : Int) : RDs K F H (rgV a b) (rgD a (b - a).toNat) := by
  have : rgD a (b - a).toNat = ((List.range (b - a).toNat).map fun i => a + (i : Nat)).map D.int := by unfold rgD; rw [List.map_map]; rfl
  rw [this]
  have : rgV a b = ((List.range (b - a).toNat).map fun i => a + (i : Nat)).map V.int := by unfold rgV; rw [List.map_map]; rfl
  rw [this]
  exact RDs.ofInts _
theorem rgOk {i j : Int} (h : inR2 i j = true) : RgOk i j := by
  unfold inR2 at h
  simp only [Bool.and_eq_true, decide_eq_true_eq] at h
  obtain ⟨⟨⟨h1, h2⟩, h3⟩, h4⟩ := h
  exact ⟨by omega, by omega, by omega, by omega, by omega⟩
def fLRg (f : FR) : FE := fun ρ => (f ρ).bind fun a => if inR2 a.1 a.2.1 then some (.vl (.ow ((rgD a.1 (a.2.1 - a.1).toNat).map .fz)), a.2.2) else none
def fTRg (f : FR) : FE := fun ρ => (f ρ).bind fun a => if inR2 a.1 a.2.1 then some (.vl (.fz (.tup (rgD a.1 (a.2.1 - a.1).toNat))), a.2.2) else none
theorem eLRg {e : Expr} {f : FR} {p pos : Pos} (hc : X.calm = true) (hg : Gl X "list") (hm : X.mg "list" = none) (he : RX X e f) (na : starEach [e] X.env = (false, eval e X.env) :: starEach [] X.env := by rfl) : EX X (.Call (.Name "list" p) [e] [] pos) (fLRg f) :=
  PE.imp (pe_listRg hc hg hm he na) fun σ H Q ⟨F, τ, θ, ρ, r, ρ', s, e, q⟩ => by
  unfold fLRg at e
  simp only [Option.bind_eq_some_iff] at e
  obtain ⟨⟨i, j, ρ1⟩, e1, e2⟩ := e
  split at e2
  · rename_i hr
    cases e2
    refine ⟨F, τ, θ, ρ, i, j, ρ1, s, e1, fun F1 H1 s1 => ⟨rgOk hr, fun p hp => ?_⟩⟩
    exact (s1.res (o := .nl (rgD i (j - i).toNat)) (Q := Q) fun F' H' v s' => q F' H' v s' trivial) p _ (RDs.ofRg i j) hp
  · cases e2
theorem eTRg {e : Expr} {f : FR} {p pos : Pos} (hc : X.calm = true) (hg : Gl X "tuple") (hm : X.mg "tuple" = none) (he : RX X e f) (na : starEach [e] X.env = (false, eval e X.env) :: starEach [] X.env := by rfl) : EX X (.Call (.Name "tuple" p) [e] [] pos) (fTRg f) :=
  PE.imp (pe_tupRg hc hg hm he na) fun σ H Q ⟨F, τ, θ, ρ, r, ρ', s, e, q⟩ => by
  unfold fTRg at e
  simp only [Option.bind_eq_some_iff] at e
  obtain ⟨⟨i, j, ρ1⟩, e1, e2⟩ := e
  split at e2
  · rename_i hr
    cases e2
    refine ⟨F, τ, θ, ρ, i, j, ρ1, s, e1, fun F1 H1 s1 => ⟨rgOk hr, fun p hp => ?_⟩⟩
    exact (s1.res (o := .nt (rgD i (j - i).toNat)) (Q := Q) fun F' H' v s' => q F' H' v s' trivial) p _ (RDs.ofRg i j) hp
  · cases e2

/-! ### isinstance -/
def tyD : D → String
  | .non => "NoneType"
  | .bl _ => "bool"
  | .int _ => "int"
  | .str _ => "str"
  | .tup _ => "tuple"
  | .lst _ => "list"
  | .rol _ => "list"
  | .dic _ _ => "dict"
def tyM : M → String
  | .fz d => tyD d
  | .ow _ => "list"
  | .dc _ _ => "dict"
theorem tyX {v : V} {m : M} (r : RMok K F H v m) : TyX K H v (.type (tyM m)) := by
  obtain ⟨c, r, _⟩ := r
  cases r with
  | fz r =>
    cases r with
    | non => exact .base .non
    | bl b => exact .base (.bl b)
    | int i => exact .base (.int i)
    | str x => exact .base (.str x)
    | tup q rs =>
      rcases q with (q | ⟨o, q⟩) | ⟨o, its, n, h1, h2, _⟩
      · exact .base (.tup q)
      · exact .fTuple q
      · exact .kTuple h1 h2
    | lst f q rs => exact .base (.lst q)
    | rol q rs =>
      rcases q with ⟨_, q⟩ | ⟨o, q⟩ | ⟨o, its, n, h1, h2, _⟩
      · exact .base (.lst q)
      · exact .base (.frz q)
      · exact .kList h1 h2
    | dic f q l rs =>
      rcases q with q | ⟨o, q⟩
      · exact .base (.dK q)
      · exact .fDict q
  | ow e q => exact .base (.lst e)
  | dc e l q => exact .base (.dK e)
def isiB (a b : String) : Bool := a == b || (a == "bool" && b == "int")
def kinds : List String := ["NoneType", "bool", "int", "str", "tuple", "list", "dict"]
def kinds2 : List String := ["bool", "int", "str", "tuple", "list", "dict"]
theorem isiB_all : (kinds.all fun a => kinds2.all fun b => kitB a b == some (isiB a b)) = true := by decide +kernel
theorem tyD_mem (d : D) : tyD d ∈ kinds := by cases d <;> simp [tyD, kinds]
theorem tyM_mem (m : M) : tyM m ∈ kinds := by cases m with | fz d => exact tyD_mem d | ow l => simp [tyM, kinds] | dc a b => simp [tyM, kinds]
theorem isi_ok (m : M) {T : String} (h : T ∈ kinds2) : PySem.W.kitOne K (.type (tyM m)) (.type T) = some (isiB (tyM m) T) := by
  have := List.all_eq_true.mp isiB_all _ (tyM_mem m)
  have := List.all_eq_true.mp this _ h
  exact kit_ty (by simpa using this)
/-- isinstance(e, T) -/
def fIsi (T : String) (f : FE) : FE := fun ρ => (f ρ).bind fun a => (a.1.look a.2).map fun m => (.vl (.fz (.bl (isiB (tyM m) T))), a.2)
theorem eIsi {e : Expr} {f : FE} {T : String} {x : Str} {p p2 pos : Pos} (hT : T ∈ kinds2) (hg : Gl X "isinstance") (hm : X.mg "isinstance" = none) (he : EX X e f) (hg2 : Gl X x) (hm2 : X.mg x = none) (hv : bootBuiltins x = some (.type T))
    (hn : x ≠ "__name__" := by decide) (hd : (x == ("__debug__" : Str)) = false := by decide)
    (hse : starEach [e, .Name x p2] X.env = (false, eval e X.env) :: starEach [.Name x p2] X.env := by rfl) (hse2 : starEach [.Name x p2] X.env = (false, eval (.Name x p2) X.env) :: starEach [] X.env := by rfl) (hpl : (backTo pos (starEach [.Name x p2] X.env)).any (·.1) = false := by rfl) :
    EX X (.Call (.Name "isinstance" p) [e, .Name x p2] [] pos) (fIsi T f) :=
  PE.imp (pe_callB call_isi hg hm (PyProof.Rows.boot_isinstance) (pa_cons he (pa_cons (pe_bltn (v := .ty T) hg2 hm2 hv rfl hn hd) pa_nil hse2) hse) (by decide) (by decide) hse hpl) fun σ H Q ⟨F, τ, θ, ρ, r, ρ', s, e, q⟩ => by
  unfold fIsi at e
  simp only [Option.bind_eq_some_iff, Option.map_eq_some_iff] at e
  obtain ⟨⟨r1, ρ1⟩, e1, m, e2, e3⟩ := e
  cases e3
  refine ⟨F, τ, θ, ρ, r1, ρ1, s, e1, fun F1 H1 v s1 o1 => ?_⟩
  exact ⟨v, .ty T, _, _, _, rfl, .ty T, tyX (s1.look o1 e2), isi_ok m hT, q F1 H1 _ (s1.pop.push (.bl _)) trivial⟩
/-- isinstance(e, (T, U)) -/
def fIsi2 (T U : String) (f : FE) : FE := fun ρ => (f ρ).bind fun a => (a.1.look a.2).map fun m => (.vl (.fz (.bl (isiB (tyM m) T || isiB (tyM m) U))), a.2)
theorem eIsi2 {e : Expr} {f : FE} {T U : String} {x y : Str} {p p2 p3 p4 pos : Pos} {k : Nat} (hT : T ∈ kinds2) (hU : U ∈ kinds2) (hg : Gl X "isinstance") (hm : X.mg "isinstance" = none) (he : EX X e f) (hg2 : Gl X x) (hm2 : X.mg x = none) (hv : bootBuiltins x = some (.type T)) (hg3 : Gl X y) (hm3 : X.mg y = none) (hv3 : bootBuiltins y = some (.type U))
    (hn : x ≠ "__name__" := by decide) (hd : (x == ("__debug__" : Str)) = false := by decide) (hn3 : y ≠ "__name__" := by decide) (hd3 : (y == ("__debug__" : Str)) = false := by decide)
    (h3 : starEach [.Name x p2, .Name y p3] X.env = (false, eval (.Name x p2) X.env) :: starEach [.Name y p3] X.env := by rfl) (h4 : starEach [.Name y p3] X.env = (false, eval (.Name y p3) X.env) :: starEach [] X.env := by rfl)
    (hse : starEach [e, .Tuple [.Name x p2, .Name y p3] k p4] X.env = (false, eval e X.env) :: starEach [.Tuple [.Name x p2, .Name y p3] k p4] X.env := by rfl) (hse2 : starEach [.Tuple [.Name x p2, .Name y p3] k p4] X.env = (false, eval (.Tuple [.Name x p2, .Name y p3] k p4) X.env) :: starEach [] X.env := by rfl) (hpl : (backTo pos (starEach [.Tuple [.Name x p2, .Name y p3] k p4] X.env)).any (·.1) = false := by rfl) :
    EX X (.Call (.Name "isinstance" p) [e, .Tuple [.Name x p2, .Name y p3] k p4] [] pos) (fIsi2 T U f) :=
  PE.imp (pe_callB call_isiT hg hm (PyProof.Rows.boot_isinstance) (pa_cons he (pa_cons (pe_tup (pa_cons (pe_bltn (v := .ty T) hg2 hm2 hv rfl hn hd) (pa_cons (pe_bltn (v := .ty U) hg3 hm3 hv3 rfl hn3 hd3) pa_nil h4) h3)) pa_nil hse2) hse) (by decide) (by decide) hse hpl) fun σ H Q ⟨F, τ, θ, ρ, r, ρ', s, e, q⟩ => by
  unfold fIsi2 at e
  simp only [Option.bind_eq_some_iff, Option.map_eq_some_iff] at e
  obtain ⟨⟨r1, ρ1⟩, e1, m, e2, e3⟩ := e
  cases e3
  refine ⟨F, τ, θ, ρ, r1, ρ1, s, e1, fun F1 H1 v s1 o1 => ⟨by show 2 ≤ sizeLine; decide, fun tp hp => ?_⟩⟩
  have s2 := s1.new (o := .tup [.ty T, .ty U]) hp
  refine ⟨v, tp, [.ty T, .ty U], _, [.type T, .type U], _, rfl, upd_same, .cons (.ty T) (.cons (.ty U) .nil), tyX (s2.look o1 e2), ?_, q F1 _ _ (s2.pop.push (.bl _)) trivial⟩
  refine kitAny_cons (isi_ok m hT) (fun hb => kitAny_cons (r := isiB (tyM m) T || isiB (tyM m) U) (isi_ok m hU) (fun hb2 => ?_) (fun hb2 => ?_)) (fun hb => ?_)
  · rw [hb, hb2]; exact kitAny_nil
  · rw [hb2, Bool.or_true]
  · rw [hb, Bool.true_or]

/-! ### enumerate of a list -/
def enD : Nat → List D → List D
  | _, [] => []
  | i, d :: ds => .tup [.int (i : Nat), d] :: enD (i + 1) ds
theorem enD_get : ∀ (ds : List D) (k i : Nat) (e : D), (enD k ds)[i]? = some e → ∃ d, ds[i]? = some d ∧ e = .tup [.int ((k + i : Nat) : Int), d]
  | [], k, i, e, h => by simp [enD] at h
  | d :: ds, k, 0, e, h => by simp [enD] at h; exact ⟨d, rfl, by simp [h]⟩
  | d :: ds, k, i + 1, e, h => by
    obtain ⟨d', h1, h2⟩ := enD_get ds (k + 1) i e (by simpa [enD] using h)
    exact ⟨d', by simpa using h1, by rw [h2]; congr 3; omega⟩
theorem enD_len : ∀ (ds : List D) (k : Nat), (enD k ds).length = ds.length
  | [], _ => rfl
  | _ :: ds, k => by simp [enD, enD_len ds]
theorem wk_enum {a : Addr} {d0 : D} {ds : List D} (h0 : d0 = .lst ds ∨ d0 = .rol ds) : Wk K (Ite K a) (some (.ref a)) (some (.fz d0)) (enD 0 ds) where
  go := fun F H τ θ σ ρ i e s h => by
    obtain ⟨d, hd, he⟩ := enD_get ds 0 i e h
    subst he
    obtain ⟨v, e1, r⟩ := s.topD
    cases e1
    have : ∃ xs, SqL K H a xs ∧ RDs K F H xs ds := by
      rcases h0 with rfl | rfl
      · cases r with
        | lst f q rs => exact ⟨_, .inl (.inl q), rs⟩
      · cases r with
        | rol q rs => exact ⟨_, q.sq, rs⟩
    obtain ⟨xs, q, rs⟩ := this
    obtain ⟨x, hx, rx⟩ := rs.at hd
    refine ⟨⟨xs, x, q, hx⟩, fun y H' ⟨T, x', e1, hT, e2, hy⟩ => ?_⟩
    subst e1 e2
    have := hy xs q
    rw [hx] at this; cases this
    refine ⟨F, (s.new hT).push (.tup (.inl (.inl upd_same)) (.cons ?_ (.cons (rx.grow (Grow.new hT)) .nil)))⟩
    rw [Nat.zero_add]
    exact .int _
  stop := fun F H τ θ σ ρ i s h => by
    rw [enD_len] at h
    obtain ⟨v, e, r⟩ := s.topD
    cases e
    rcases h0 with rfl | rfl
    · cases r with
      | lst f q rs => exact ⟨_, .inl (.inl q), by rw [rs.len]; exact h⟩
    · cases r with
      | rol q rs => exact ⟨_, q.sq, by rw [rs.len]; exact h⟩
def lstOf : D → Option (List D)
  | .lst l => some l
  | .rol l => some l
  | _ => none
def fEnum (fa : FA) : FI := fun ρ => match fa ρ with
  | some ([.vl (.fz d)], ρ') => (lstOf d).map fun l => (enD 0 l, ρ')
  | _ => none
theorem iEnumX {e : Expr} {fa : FA} {p pos tpos : Pos} {elts : List Expr} {kk : Nat} (hg : Gl X "enumerate") (hm : X.mg "enumerate" = none) (ha : AX X [e] fa) (hs : starEach [e] X.env = [(false, eval e X.env)] := by rfl) :
    IX X (.Tuple elts kk tpos) (.Call (.Name "enumerate" p) [e] [] pos) (fEnum fa) := PI.imp (pi_enum hg hm ha hs) fun σ H R ⟨F, τ, θ, ρ, ds, ρ', s, e, q⟩ => by
  unfold fEnum at e
  split at e
  · simp only [Option.map_eq_some_iff] at e
    rename_i d ρ1 e1
    obtain ⟨l, e2, e3⟩ := e
    cases e3
    refine ⟨F, τ, θ, ρ, _, _, s, e1, fun F1 H1 vs s1 os => ?_⟩
    cases os with
    | @cons vv _ _ _ o1 os =>
      cases os
      obtain ⟨v', e4, r⟩ := SR.topD s1
      cases e4
      have h0 : d = .lst l ∨ d = .rol l := by cases d <;> cases e2; exact .inl rfl; exact .inr rfl
      have : ∃ a xs, vv = V.ref a ∧ SqL X.K H1 a xs := by
        rcases h0 with rfl | rfl
        · cases r with
          | lst f q rs => exact ⟨_, _, rfl, .inl (.inl q)⟩
        · cases r with
          | rol q rs => exact ⟨_, _, rfl, q.sq⟩
      obtain ⟨a, xs, e5, q5⟩ := this
      subst e5
      exact ⟨a, xs, rfl, q5, q F1 H1 _ _ _ s1 (wk_enum h0)⟩
  · cases e

/-! ### xs.extend(ys), xs.insert -/
theorem list_extend_tup (l : Addr) (items : Array Value) (n : Nat) (b : Addr) (items2 : Array Value) (n2 : Nat) (dd : Option Addr) (sl : Array (Option Value)) (hs0 : ¬(!items.isEmpty && Builtin.List.listTooLong (items.size + items2.size)) = true) (hs1 : items.size ≤ sizeLine) (hs2 : items.size + items2.size ≤ sizeLine + 1) :
    Meets (Builtin.«list.extend» ⟨[.ref l, .ref b], []⟩) (fun _ R s => s.heap.get? l = some { cls := .type "list", dict := none, data := .seq items n, slots := #[] } ∧ s.heap.get? b = some { cls := .type "tuple", dict := dd, data := .seq items2 n2, slots := sl } ∧ R (.ok (.ret Value.none)) { s with heap := s.heap.update l (Obj.mapSeq fun x => x ++ items2), toks := s.toks }) :=
  .of_wp fun prog w A R s h => by
    open PySem.AutoSeq1 in
    obtain ⟨hp, g, d, tk, os⟩ := s; obtain ⟨hl, hb, h⟩ := h; have f1 := PySem.AutoSeq1.idx_int; have f2 := PySem.AutoSeq1.sub_tuple_tuple; have f3 := PySem.AutoSeq1.sub_list_list; have f4 := PySem.AutoSeq1.sub_tuple_list; have f5 := PySem.AutoSeq1.sub_list_tuple;
    have hz' : (items ++ items2).size ≤ sizeLine + 1 := by rw [Array.size_append]; exact hs2
    wp_walk using (wpAny_updateSeq hl rfl (hz := hs1) (_hz' := hz')), PySem.AutoSeq1.wpAny_loadPart' hl, PySem.AutoSeq1.wpAny_loadPart' hb; exact ⟨_, rfl, h⟩
def rExtT (K : PySem.W.Frag) : V → List V → Hp → VK → Prop := fun x vs H Q => ∃ l b xs zs, x = .ref l ∧ vs = [.ref b] ∧ H l = some (.lst xs) ∧ SqT K H b zs ∧ xs.length + zs.length ≤ sizeLine ∧ Q .non (upd H l (.lst (xs ++ zs)))
theorem mt_extT : MtR X "list.extend" (rExtT X.K) := by
  intro pins s σ H x v vs us Q I rx rv h
  obtain ⟨l, b, xs, zs, rfl, rfl, hH, hB, hz, q⟩ := h
  cases rx
  obtain ⟨u, rfl, ru⟩ := rv.one
  cases ru
  obtain ⟨z, its, n, r, hl, e⟩ := I.lstM hH
  obtain ⟨its2, r2, ⟨o, e2, c2, n2, d2⟩, z2⟩ := I.tuple hB
  obtain ⟨oc, od, dt, sl⟩ := o
  simp only at c2 d2
  subst c2 d2
  have hl2 := r2.length
  have hsz : its.toArray.size + its2.toArray.size ≤ sizeLine := by rw [List.size_toArray, List.size_toArray]; omega
  have hlong : ¬ (!its.toArray.isEmpty && Builtin.List.listTooLong (its.toArray.size + its2.toArray.size)) = true := by
    rw [notLongL hsz, Bool.and_false]
    exact Bool.false_ne_true
  refine call_meets F.slot_list_extend ⟨_, e, rfl⟩ F.entry_list_extend (F.args_list_extend_2 _ _)
    (list_extend_tup l its.toArray n b its2.toArray n2 od sl hlong (by rw [List.size_toArray]; omega) (by omega)) ⟨e, e2, ?_⟩
  refine ⟨.non, _, I.lset (its' := its ++ its2) hH e (by simp) (r.append r2) ?_, rfl, q⟩
  rw [List.length_append]
  omega
def sExt : List M → List M → Option (List M × M) := fun ms as => match as with
  | [.fz (.tup l)] => if ms.length + l.length ≤ 100000 then some (ms ++ l.map .fz, .fz .non) else none
  | [.fz (.lst l)] => if ms.length + l.length ≤ 100000 then some (ms ++ l.map .fz, .fz .non) else none
  | [.ow l] => if ms.length + l.length ≤ 100000 then some (ms ++ l, .fz .non) else none
  | _ => none
def rExtA (K : PySem.W.Frag) : V → List V → Hp → VK → Prop := fun x vs H Q => rExtend x vs H Q ∨ rExtT K x vs H Q
theorem mt_extA : MtR X "list.extend" (rExtA X.K) := MtR.or mt_extend mt_extT
theorem m_ext : MSem K (rExtA K) sExt := fun F H a vs ms c xs as ca ms' res Q ha hm hx n nf e q => by
  unfold sExt at e
  split at e
  · split at e
    · rename_i l hl
      cases e
      cases hx with
      | cons r1 r2 =>
        cases r2
        cases r1 with
        | fz r1 =>
          cases r1 with
          | tup q1 rs => exact .inr ⟨a, _, vs, _, rfl, rfl, ha, q1, by rw [hm.len, rs.len]; exact k100000' hl, q _ _ _ _ (hm.app rs.fz) (.fz .non) fun x => by unfold add c0; omega⟩
    · cases e
  · split at e
    · rename_i l hl
      cases e
      cases hx with
      | cons r1 r2 =>
        cases r2
        cases r1 with
        | fz r1 =>
          cases r1 with
          | lst f q1 rs => exact .inl ⟨a, _, vs, _, rfl, rfl, ha, q1, by rw [hm.len, rs.len]; exact k100000' hl, q _ _ _ _ (hm.app rs.fz) (.fz .non) fun x => by unfold add c0; omega⟩
    · cases e
  · split at e
    · rename_i l hl
      cases e
      cases hx with
      | cons r1 r2 =>
        cases r2
        cases r1 with
        | ow hb hm2 => exact .inl ⟨a, _, vs, _, rfl, rfl, ha, hb, by rw [hm.len, hm2.len]; exact k100000' hl, q _ _ _ _ (hm.app hm2) (.fz .non) fun x => by unfold add c0; omega⟩
    · cases e
  · cases e
end
end Dv

set_option Elab.async false
set_option linter.all false
set_option maxRecDepth 100000
set_option maxHeartbeats 4000000
namespace Dv
open PySem PySem.Spec PyProof.Rows L2

section
variable {X : Cx} {K : PySem.W.Frag} {F F' : Addr → Prop} {H H' : Hp} {τ : List (Option V)} {θ : List (Option M)} {σ : List (Option V)} {ρ : List (Option M)} {C : Nat → Bool}
/-! ### chains of comparisons -/
def fCh (s s' : M → M → Option O) (fa fb fc : FE) : FE := fun ρ => (fa ρ).bind fun a => (fb a.2).bind fun b => (a.1.look b.2).bind fun m1 => (b.1.look b.2).bind fun m2 => (s m1 m2).bind fun o => match o with
  | .ex (.bl true) => (fc b.2).bind fun c => (b.1.look c.2).bind fun m2 => (c.1.look c.2).bind fun m3 => (s' m2 m3).map fun o => (.vl o.m, c.2)
  | .ex (.bl false) => some (.vl (.fz (.bl false)), b.2)
  | _ => none
theorem ch_run {r r' : R2} {s s' : M → M → Option O} {fa fb fc : FE} (hs : Bin K r s) (hs' : Bin K r' s') {Q : VK} (h : tE K (fCh s s' fa fb fc) σ H Q) : tChain r r' (tE K fa) (tE K fb) (tE K fc) σ H Q := by
  obtain ⟨F, τ, θ, ρ, rr, ρ', st, e, q⟩ := h
  unfold fCh at e
  simp only [Option.bind_eq_some_iff] at e
  obtain ⟨⟨r1, ρ1⟩, e1, ⟨r2, ρ2⟩, e2, m1, e3, m2, e4, o, e5, e6⟩ := e
  refine ⟨F, τ, θ, ρ, r1, ρ1, st, e1, fun F1 H1 v1 s1 o1 => ⟨F1, _, _, ρ1, r2, ρ2, s1, e2, fun F2 H2 v2 s2 o2 => ?_⟩⟩
  refine hs F2 H2 v1 m1 v2 m2 o _ (s2.under.look o1 e3) (s2.look o2 e4) e5 ?_
  split at e6
  · simp only [Option.bind_eq_some_iff, Option.map_eq_some_iff] at e6
    obtain ⟨⟨r3, ρ3⟩, e7, m2', e8, m3, e9, o', e10, e11⟩ := e6
    cases e11
    intro v rv
    cases rv
    refine ⟨true, rfl, iteT ⟨F2, _, _, ρ2, r3, ρ3, s2, e7, fun F3 H3 v3 s3 o3 => ?_⟩⟩
    refine hs' F3 H3 v2 m2' v3 m3 o' Q (s3.under.look o2 e8) (s3.look o3 e9) e10 ?_
    exact s3.pop.pop.pop.res fun F' H' v s' => q F' H' v s' trivial
  · cases e6
    intro v rv
    cases rv
    exact ⟨false, rfl, iteF (q F2 H2 _ (s2.pop.pop.push (.bl false)) trivial)⟩
  · cases e6
theorem eCh {op op' : CmpOp} {r r' : R2} {s s' : M → M → Option O} {a b c : Expr} {fa fb fc : FE} {pos : Pos} (ho : OpR X (compareOp op) r) (hs : Bin X.K r s) (ho' : OpR X (compareOp op') r') (hs' : Bin X.K r' s') (ha : EX X a fa) (hb : EX X b fb) (hc : EX X c fc)
    (hm : lastMarks [op, op'] [b, c] = false := by with_unfolding_all rfl) : EX X (.Compare a [op, op'] [b, c] pos) (fCh s s' fa fb fc) := PE.imp (pe_chain ho ho' ha hb hc hm) fun _ _ _ h => ch_run hs hs' h
theorem tCh {op op' : CmpOp} {r r' : R2} {s s' : M → M → Option O} {a b c : Expr} {fa fb fc : FE} {pos : Pos} (ho : OpR X (compareOp op) r) (hs : Bin X.K r s) (ho' : OpR X (compareOp op') r') (hs' : Bin X.K r' s') (ha : EX X a fa) (hb : EX X b fb) (hc : EX X c fc)
    (hm : lastMarks [op, op'] [b, c] = false := by with_unfolding_all rfl) : TX X (.Compare a [op, op'] [b, c] pos) (fTst (fCh s s' fa fb fc)) := PT.imp (pt_chain ho ho' ha hb hc hm) fun σ H Q h => by
  obtain ⟨F, τ, θ, ρ, b, ρ', s, e, q⟩ := tst_run h
  exact ch_run hs hs' ⟨F, τ, θ, ρ, b, ρ', s, e, q⟩

/-! ### comprehensions as expressions, in assignments -/
theorem fz_run {f : FE} {Q : VK} (h : tE K (fFz f) σ H Q) : tE K f σ H Q := by
  obtain ⟨F, τ, θ, ρ, r', ρ', s, e, q⟩ := h
  unfold fFz at e
  split at e
  · rename_i m ρ1 he
    cases e
    refine ⟨F, τ, θ, ρ, .vl m, _, s, he, fun F' H' v s' _ => ?_⟩
    obtain ⟨F2, s2⟩ := SR.frzTop (m := m) s'
    exact q F2 H' v s2 trivial
  · rename_i i ρ1 he
    split at e
    · rename_i m hm
      cases e
      refine ⟨F, τ, θ, ρ, .al i, ρ1, s, he, fun F' H' v s' o => ?_⟩
      obtain ⟨F2, s2⟩ := s'.frzSlot hm
      have hi : i < ρ1.length := (List.getElem?_eq_some_iff.mp hm).1
      obtain ⟨w, c, h1, h2, h3⟩ := s2.get (i := i) (m := .fz m.frz) (by rw [List.getElem?_set_self hi])
      have o' : σ[i]? = some (some v) := o
      rw [o'] at h1; cases h1
      cases h2 with
      | fz r => exact q F2 H' v (s2.pop.push r) trivial
    · cases e
  · cases e
variable {elt tg iter : Expr} {ifs : List Expr} {scope : Scope} {own : List (Str × Nat)} {pos : Pos} {fi : FI} {g : FG} {ft : FT} {fe : FE}
abbrev BG (X : Cx) (scope : Scope) (tg : Expr) (C : Nat → Bool) (g : FG) : Prop := ∀ (s : Shared) (H : Hp) (Cc : Addr) (cl : List (Str × Addr)) (fp : List Addr), PG (X.blk s H scope (compEnvC scope cl Cc X.env) fp) tg (tG X.K C g)
abbrev BT (X : Cx) (scope : Scope) (ifs : List Expr) (ft : FT) : Prop := ∀ (s : Shared) (H : Hp) (Cc : Addr) (cl : List (Str × Addr)) (fp : List Addr), PTs (X.blk s H scope (compEnvC scope cl Cc X.env) fp) ifs (tT X.K ft)
abbrev BE (X : Cx) (scope : Scope) (elt : Expr) (fe : FE) : Prop := ∀ (s : Shared) (H : Hp) (Cc : Addr) (cl : List (Str × Addr)) (fp : List Addr), PE (X.blk s H scope (compEnvC scope cl Cc X.env) fp) elt (tE X.K fe)
theorem PTs.imp {X : Cx} {e : List Expr} {t u : TT} (h : PTs X e t) (i : ∀ σ H Q, u σ H Q → t σ H Q) : PTs X e u := ⟨fun pins s σ H Q I q => h.run pins s σ H Q I (i σ H Q q)⟩
theorem bYes : PTs X [] (tT K fYes) := PTs.imp pts_nil fun σ H Q ⟨F, τ, θ, ρ, b, ρ', s, e, q⟩ => by cases e; exact q F H s
theorem bIf {c : Expr} {f : FT} (h : PT X c (tT K f)) : PTs X [c] (tT K f) := pts_one h
theorem eComp (hc : X.calm = true) (hN : X.N.Nodup) (hi : IX X tg iter fi) (ok : BlkOk X.N X.env.scope scope own) (hg : BG X scope tg (fun i => !(own.map (·.2)).contains i) g) (ht : BT X scope ifs ft) (he : BE X scope elt fe)
    (hs : ∀ x, foldedSetIterable iter X.env x = pure x := by intro _; rfl) : EX X (.ListComp elt [⟨tg, iter, ifs, 0⟩] scope pos) (fComp fi g ft fe (own.map (·.2))) :=
  PE.imp (pe_lc hc hN hi ok hg ht he hs) fun σ H Q h => comp_run h
theorem sSetLc {i : Nat} {y : Str} {py spos : Pos} {f : FE} (hf : ∀ σ H Q, tE X.K f σ H Q → tE X.K (fComp fi g ft fe (own.map (·.2))) σ H Q) (hc : X.calm = true) (hN : X.N.Nodup) (hy : X.N[i]? = some y) (hyl : X.env.scope.names.lookup y = some .local)
    (hsw : swapsWith (.ListComp elt [⟨tg, iter, ifs, 0⟩] scope pos) (some (.Name y py)) spos.line X.env = pure true) (hi : IX X tg iter fi) (ok : BlkOk X.N X.env.scope scope own) (hg : BG X scope tg (fun i => !(own.map (·.2)).contains i) g) (ht : BT X scope ifs ft) (he : BE X scope elt fe)
    (hs : ∀ x, foldedSetIterable iter X.env x = pure x := by intro _; rfl) : SX X C (.Assign [.Name y py] (.ListComp elt [⟨tg, iter, ifs, 0⟩] scope pos) spos) (fAsg f (gN C i)) :=
  PS.imp (ps_setLc hc hN hy hyl hsw hi ok hg ht he hs) fun D σ H ⟨F, τ, θ, ρ, o, s, e, p⟩ => by
  unfold fAsg at e
  split at e
  · rename_i m ρ1 e1
    simp only [Option.map_eq_some_iff] at e
    obtain ⟨ρ2, e2, e3⟩ := e
    subst e3
    refine comp_run (hf _ _ _ ⟨F, τ, θ, ρ, .vl m, ρ1, s, e1, fun F1 H1 v s1 _ => ?_⟩)
    unfold gN at e2
    split at e2
    · rename_i hc
      cases e2
      exact p F1 H1 _ (s1.store hc.1) (Keep.set hc.2)
    · cases e2
  · cases e

/-! ### calls with keywords -/
abbrev KX (X : Cx) (kws : List Keyword) (f : FA) : Prop := PK X kws (tA X.K f)
theorem PK.imp {X : Cx} {e : List Keyword} {t u : TA} (h : PK X e t) (i : ∀ σ H Q, u σ H Q → t σ H Q) : PK X e u := ⟨fun p pins s σ H Q I q => h.run p pins s σ H Q I (i σ H Q q)⟩
theorem kNil : KX X [] fNil := PK.imp pk_nil fun σ H Q ⟨F, τ, θ, ρ, rs, ρ', s, e, q⟩ => by
  cases e
  exact q F H [] s .nil
theorem kCons {nm : Option Str} {kpos : Pos} {e : Expr} {kws : List Keyword} {fa : FE} {fr : FA} (ha : EX X e fa) (hr : KX X kws fr) : KX X (⟨nm, e, kpos⟩ :: kws) (fCons fa fr) := PK.imp (pk_cons ha hr) fun σ H Q ⟨F, τ, θ, ρ, rs, ρ', s, e, q⟩ => by
  unfold fCons at e
  simp only [Option.bind_eq_some_iff] at e
  obtain ⟨⟨r1, ρ1⟩, e1, ⟨rs2, ρ2⟩, e2, e3⟩ := e
  cases e3
  refine ⟨F, τ, θ, ρ, r1, ρ1, s, e1, fun F1 H1 v1 s1 o1 => ?_⟩
  refine ⟨F1, _, _, ρ1, rs2, ρ2, s1, e2, fun F2 H2 vs s2 o2 => ?_⟩
  exact q F2 H2 (v1 :: vs) (s2.mid o2.len') (.cons o1 o2)
/-- arguments picked in the parameters' order -/
def pick (ms : List (Option M)) : List Nat → Option (List M)
  | [] => some []
  | i :: π => match ms[i]? with
    | some (some m) => (pick (ms.set i none) π).map fun r => m :: r
    | _ => none
def pickV (vs : List V) (π : List Nat) : List V := π.map fun i => (vs[i]?).getD .non
theorem pick_ok {vs : List V} : ∀ {π : List Nat} {ms : List (Option M)} {out : List M} {c : Cn}, ROs K F H (vs.map some) ms c → pick ms π = some out → ∃ c', ROs K F H ((pickV vs π).map some) (out.map some) c' ∧ ∀ x, c' x ≤ c x
  | [], ms, out, c, r, e => by cases e; exact ⟨c0, .nil, fun x => Nat.zero_le _⟩
  | i :: π, ms, out, c, r, e => by
    unfold pick at e
    split at e
    · rename_i m hm
      simp only [Option.map_eq_some_iff] at e
      obtain ⟨r1, e1, e2⟩ := e
      subst e2
      obtain ⟨v, c1, d, h1, h2, h3, h4⟩ := r.take hm
      obtain ⟨c', k1, k2⟩ := pick_ok h4 e1
      have : (vs[i]?).getD V.non = v := by
        rw [List.getElem?_map] at h1
        cases e3 : vs[i]? with
        | none => rw [e3] at h1; cases h1
        | some w => rw [e3] at h1; cases h1; rfl
      refine ⟨add c1 c', ?_, fun x => ?_⟩
      · show ROs K F H (some ((vs[i]?).getD V.non) :: (pickV vs π).map some) (some m :: r1.map some) (add c1 c')
        rw [this]
        exact .cons h2 k1
      · have := k2 x; have := h3 x; unfold add; omega
    · cases e
def fCallK (n m : Nat) (π : List Nat) (g : FF) (fa fk : FA) : FE := fun ρ => (fa ρ).bind fun a => (fk a.2).bind fun b => if a.1.length = n ∧ b.1.length = m then (owns (a.1 ++ b.1)).bind fun ms => (pick (ms.map some) π).bind fun ps => (g ps).map fun r => (.vl r.1, b.2) else none
theorem oks_app {σ : List (Option V)} : ∀ {vs ws : List V} {rs ss : List R}, Oks σ vs rs → Oks σ ws ss → Oks σ (vs ++ ws) (rs ++ ss)
  | _, _, _, _, .nil, q => q
  | _, _, _, _, .cons o r, q => .cons o (oks_app r q)
theorem callK_run {n m N : Nat} {π : List Nat} {g : FF} {fa fk : FA} {Q : VK} {E : XK} (hN : π.length = N) (h : tE K (fCallK n m π g fa fk) σ H Q) : tCallN n m (spD K N g) (fun vs zs => pickV (vs ++ zs) π) E (tA K fa) (tA K fk) σ H Q := by
  obtain ⟨F, τ, θ, ρ, r', ρ', s, e, q⟩ := h
  unfold fCallK at e
  simp only [Option.bind_eq_some_iff] at e
  obtain ⟨⟨rs, ρ1⟩, e1, ⟨rk, ρ2⟩, e2, e3⟩ := e
  split at e3
  · rename_i hl
    simp only [Option.bind_eq_some_iff, Option.map_eq_some_iff] at e3
    obtain ⟨ms, e4, ps, e5, ⟨mm, outs⟩, e6, e7⟩ := e3
    cases e7
    refine ⟨F, τ, θ, ρ, rs, ρ1, s, e1, fun F1 H1 vs s1 os => ⟨F1, _, _, ρ1, rk, _, s1, e2, fun F2 H2 zs s2 oz => ?_⟩⟩
    refine ⟨os.len.trans hl.1, oz.len.trans hl.2, by unfold pickV; rw [List.length_map]; exact hN, ?_⟩
    obtain ⟨⟨c, d, r1, r2, n'⟩, fd⟩ := s2
    obtain ⟨cz, cr, g1, g2, g3⟩ := ROs.split oz.len' r1
    obtain ⟨cv, ct, g4, g5, g6⟩ := ROs.split os.len' g2
    have g7 := g4.app g1
    rw [← List.map_append, ← List.map_append, owns_some e4] at g7
    obtain ⟨c', k1, k2⟩ := pick_ok g7 e5
    have hlen : τ.length = θ.length := g5.len
    refine ⟨F2, τ ++ σ, θ ++ _, ps, mm, outs, ⟨⟨_, c', g5.app r2, k1, fun x => ?_⟩, fd⟩, e6, fun F3 H3 v s3 => ?_⟩
    · have := n' x; have := g3 x; have := g6 x; have := k2 x
      unfold add at *
      exact ⟨by omega, fun f => by have := (n' x).2 f; omega⟩
    · obtain ⟨⟨cc, dd, z1, z2, zn⟩, zfd⟩ := s3
      cases z1 with
      | @cons _ _ _ _ cv cr y1 y2 =>
        obtain ⟨cτ, cσ, x1, x2, x3⟩ := ROs.split hlen y2
        refine q F3 H3 v ⟨⟨_, cσ, .cons y1 x1, x2, fun x => ?_⟩, zfd⟩ trivial
        have := zn x; have := x3 x
        unfold add at *
        exact ⟨by omega, fun f => by have := (zn x).2 f; omega⟩
  · cases e3
end

/-! ### defs by name -/
section
variable {P : Program} {w : World} {K : PySem.W.Frag} {mg : Str → Option Value} {base : Heap}
/-- the def x of the text, st its statement, told by g at the level k -/
structure Fn (P : Program) (w : World) (K : PySem.W.Frag) (mg : Str → Option Value) (base : Heap) (x : Str) (st : Stmt) (k : Nat) (ps : List Str) (g : FF) (fd : FuncData) : Prop where
  ok : FnOk P w K mg base CX0 k (He.ga K x) fd ps (spD K ps.length g)
  gl : mg x = some (.ref (He.ga K x))
  kp : PySem.W.keepIn K (.ref (He.ga K x)) = true
  fu : FunD K x x (defArgs st) (defBody st) (defScope st) [] [] (He.ga K x) fd
/-- the def x as it stands behind the top -/
def Df (K : PySem.W.Frag) (mg : Str → Option Value) (x : Str) (st : Stmt) : Prop := mg x = some (.ref (He.ga K x)) ∧ ∃ fd, FunD K x x (defArgs st) (defBody st) (defScope st) [] [] (He.ga K x) fd
theorem okD {x : Str} {st : Stmt} {N ps : List Str} {k : Nat} {body : FS} {fd : FuncData} (gl : mg x = some (.ref (He.ga K x))) (Fu : FunD K x x (defArgs st) (defBody st) (defScope st) [] [] (He.ga K x) fd) (S : FnScope N ps (defScope st)) (C : Nat → Bool)
    (hb : ∀ (cdv : Value) (A : Around) (outer : List Env) (s : Shared) (H : Hp) (E : XK), Room k (A.deeper (envOfC x (defScope st) s.heap.objs.size (He.ga K x) cdv)) → BX (cxOf CX0 P w K mg base N x (defScope st) (He.ga K x) cdv A outer s H E).nox C (defBody st) body) :
    Fn P w K mg base x st (k + 1) ps (fnG ps.length N.length C body) fd := by
  refine ⟨Fu.ok S (fun vs H Q E h => h.1) (fun cdv A outer s H vs Q E hr h => ⟨_, (hb cdv A outer s H E hr).nox, ?_⟩), gl, Fu.kp, Fu⟩
  obtain ⟨hl, F, τ, θ, ms, m, outs, s1, e, q⟩ := h
  have s2 := s1.started (N := N)
  unfold fnG at e
  rw [← hl] at e
  split at e
  · rename_i m' ρ' e1
    cases e
    exact ⟨F, τ, θ, _, _, s2, e1, fun F' H' σ' v s3 k3 => q F' H' v (SR.outs s3 k3)⟩
  · rename_i ρ' e1
    cases e
    exact ⟨F, τ, θ, _, _, s2, e1, fun F' H' σ' s3 k3 => q F' H' _ (SR.outs (s3.push .non) k3)⟩
  · cases e
/-- never called so: the floor of a recursion -/
theorem fn0 {x : Str} {st : Stmt} {ps : List Str} {fd : FuncData} (gl : mg x = some (.ref (He.ga K x))) (Fu : FunD K x x (defArgs st) (defBody st) (defScope st) [] [] (He.ga K x) fd) (k : Nat) : Fn P w K mg base x st k ps (fun _ => none) fd :=
  ⟨⟨fun vs H Q E h => h.1, fun A outer s H args us vs Q E hr he hb hv h => by obtain ⟨_, F, τ, θ, ms, m, outs, _, e, _⟩ := h; cases e⟩, gl, Fu.kp, Fu⟩
theorem Fn.mono {x : Str} {st : Stmt} {j k : Nat} {ps : List Str} {g : FF} {fd : FuncData} (h : Fn P w K mg base x st j ps g fd) (l : j ≤ k) : Fn P w K mg base x st k ps g fd := ⟨h.ok.mono l, h.gl, h.kp, h.fu⟩
theorem fkbn {x qual : Str} {params : Arguments} {body : List Stmt} {scope : Scope} {f : Addr} {fd : FuncData} {ps ks : List Str} {n : Nat} {π : List Nat} (F : FunD K x qual params body scope [] [] f fd)
    (h : ∀ (kV doc pm : Value) (an : Option Addr) (cdv ct : Value) (us ws : List Value), us.length = n → ws.length = ks.length → bindArgs (PySem.W.fnOf x qual params body scope .none kV doc pm an cdv ct) ⟨us, ks.zip ws⟩ = pure (ps.zip (π.map fun i => ((us ++ ws)[i]?).getD .none))) :
    KBn K fd ps n ks (fun us ws => π.map fun i => ((us ++ ws)[i]?).getD .none) (fun vs zs => pickV (vs ++ zs) π) := by
  obtain ⟨oc, od, dV, kV, doc, pm, an, cdv, ct, osl, rfl, lk, hcd, hD, hK⟩ := F.ex
  rcases hD with ⟨_, rfl⟩ | ⟨e, _⟩
  · refine ⟨fun s us ws _ h1 h2 => .of_eq (h kV doc pm an cdv ct us ws h1 h2), fun {vs us zs ws} r1 r2 => ?_⟩
    have r := r1.append r2
    unfold pickV
    have : ∀ π : List Nat, Vals (π.map fun i => ((vs ++ zs)[i]?).getD V.non) (π.map fun i => ((us ++ ws)[i]?).getD Value.none) := by
      intro π
      induction π with
      | nil => exact .nil
      | cons i π ih =>
        refine .cons ?_ ih
        show RelV (((vs ++ zs)[i]?).getD V.non) (((us ++ ws)[i]?).getD Value.none)
        cases e : (vs ++ zs)[i]? with
        | none => rw [r.none_of e]; rfl
        | some v => obtain ⟨u, h1, h2⟩ := r.get e; rw [h1]; exact h2
    exact this π
  · exact absurd rfl e
end
section
variable {X : Cx} {k k' n N : Nat} {fd : FuncData} {st : Stmt} {ps ks : List Str} {x : Str} {p pos : Pos} {e : Expr} {es : List Expr} {fa fk : FA} {g : FF} {kws : List Keyword} {π : List Nat}
theorem eFn (G : Fn X.prog X.w X.K X.mg X.base x st k ps g fd) (hr : Room k X.A) (hg : Gl X x)
    (hb : ∀ (kV doc pm : Value) (an : Option Addr) (cdv ct : Value) (us : List Value), us.length = ps.length → bindArgs (PySem.W.fnOf x x (defArgs st) (defBody st) (defScope st) .none kV doc pm an cdv ct) ⟨us, []⟩ = pure (ps.zip us))
    (ha : AX X (e :: es) fa) (hn : FAn fa ps.length) (hdb : (x == ("__debug__" : Str)) = false := by decide) (he : starEach (e :: es) X.env = (false, eval e X.env) :: starEach es X.env := by rfl) (hpl : (backTo pos (starEach es X.env)).any (·.1) = false := by rfl) :
    EX X (.Call (.Name x p) (e :: es) [] pos) (fCallF g fa) := eCallF G.ok hr hg G.gl G.kp (G.fu.bindsN hb) ha hn hdb he hpl
theorem eFnK (G : Fn X.prog X.w X.K X.mg X.base x st k ps g fd) (hr : Room k X.A) (hg : Gl X x) (π : List Nat) (hπ : π.length = ps.length)
    (hb : ∀ (kV doc pm : Value) (an : Option Addr) (cdv ct : Value) (us ws : List Value), us.length = n → ws.length = ks.length → bindArgs (PySem.W.fnOf x x (defArgs st) (defBody st) (defScope st) .none kV doc pm an cdv ct) ⟨us, ks.zip ws⟩ = pure (ps.zip (π.map fun i => ((us ++ ws)[i]?).getD .none)))
    (ha : AX X (e :: es) fa) (hkw : KX X kws fk) (hall : (backToKw pos (keywordEach kws X.env)).all (·.1.isSome) = true := by rfl) (hks : (backToKw pos (keywordEach kws X.env)).filterMap (·.1) = ks := by rfl)
    (hdb : (x == ("__debug__" : Str)) = false := by decide) (he : starEach (e :: es) X.env = (false, eval e X.env) :: starEach es X.env := by rfl)
    (hpl : ((backTo pos (starEach (e :: es) X.env)).any (·.1) || (backToKw pos (keywordEach kws X.env)).any (·.1.isNone)) = false := by rfl) :
    EX X (.Call (.Name x p) (e :: es) kws pos) (fCallK n ks.length π g fa fk) :=
  PE.imp (pe_callN G.ok hr hg G.gl G.kp (fkbn G.fu hb) (pass0) ha hkw hall hks hdb he hpl) fun _ _ _ h => callK_run hπ h
theorem eFnK0 (G : Fn X.prog X.w X.K X.mg X.base x st k ps g fd) (hr : Room k X.A) (hg : Gl X x) (π : List Nat) (hπ : π.length = ps.length)
    (hb : ∀ (kV doc pm : Value) (an : Option Addr) (cdv ct : Value) (us ws : List Value), us.length = 0 → ws.length = ks.length → bindArgs (PySem.W.fnOf x x (defArgs st) (defBody st) (defScope st) .none kV doc pm an cdv ct) ⟨us, ks.zip ws⟩ = pure (ps.zip (π.map fun i => ((us ++ ws)[i]?).getD .none)))
    (hkw : KX X kws fk) (hall : (backToKw pos (keywordEach kws X.env)).all (·.1.isSome) = true := by rfl) (hks : (backToKw pos (keywordEach kws X.env)).filterMap (·.1) = ks := by rfl)
    (hdb : (x == ("__debug__" : Str)) = false := by decide)
    (hpl : ((backTo pos (starEach [] X.env)).any (·.1) || (backToKw pos (keywordEach kws X.env)).any (·.1.isNone)) = false := by rfl) :
    EX X (.Call (.Name x p) [] kws pos) (fCallK 0 ks.length π g fNil fk) := by
  have h1 : PE X (.Call (.Name x p) [] kws pos) (tCallN 0 ks.length (spD X.K ps.length g) (fun vs zs => pickV (vs ++ zs) π) E0 tNil (tA X.K fk)) := by
    refine ⟨fun pins s σ H Q I h => ?_⟩
    refine wpAny_Call_Name_kw (ld_glob I hg G.gl ?_ hdb)
    refine PySem.W.callWith_KW0 (h₀ := X.base) I.ok.mod.kin G.kp hall ?_ hpl
    refine thn (hkw.run pos pins s σ H _ I h) fun ws s2 ⟨zs, H2, I2, rz, l1, l2, q2⟩ => ⟨I2.kIn, ?_⟩
    rw [hks]
    exact run_fnN (us := []) (vs := []) G.ok hr (fkbn G.fu hb) pass0 I2 .nil rz rfl l2 q2
  refine PE.imp h1 fun σ H Q h => ?_
  have h2 := callK_run (E := E0) hπ h
  obtain ⟨F, τ, θ, ρ, rs, ρ', s, e, q⟩ := h2
  cases e
  exact q F H [] s .nil
end
end Dv

set_option Elab.async false
set_option linter.all false
set_option maxRecDepth 100000
set_option maxHeartbeats 4000000
namespace Dv
open PySem PySem.Spec PySem.Calls PyProof.Rows L2
namespace B
theorem abs : bootBuiltins "abs" = some (.builtin "abs") := by decide +kernel
theorem max : bootBuiltins "max" = some (.builtin "max") := by decide +kernel
theorem min : bootBuiltins "min" = some (.builtin "min") := by decide +kernel
theorem sum : bootBuiltins "sum" = some (.builtin "sum") := by decide +kernel
theorem sorted : bootBuiltins "sorted" = some (.builtin "sorted") := by decide +kernel
theorem all : bootBuiltins "all" = some (.builtin "all") := by decide +kernel
theorem any : bootBuiltins "any" = some (.builtin "any") := by decide +kernel
theorem int : bootBuiltins "int" = some (.type "int") := by decide +kernel
theorem bool : bootBuiltins "bool" = some (.type "bool") := by decide +kernel
theorem str : bootBuiltins "str" = some (.type "str") := by decide +kernel
theorem tuple : bootBuiltins "tuple" = some (.type "tuple") := by decide +kernel
theorem list : bootBuiltins "list" = some (.type "list") := by decide +kernel
theorem dict : bootBuiltins "dict" = some (.type "dict") := by decide +kernel
end B
/-- the slots that stay -/
def cK (l : List Nat) : Nat → Bool := fun i => l.contains i

section
variable {X : Cx} {K : PySem.W.Frag} {F F' : Addr → Prop} {H H' : Hp} {C : Nat → Bool}
/-! ### len(set(..)) of different ints -/
theorem nodup_same : ∀ {a b : List Int}, a.Nodup → b.Nodup → (∀ x, x ∈ a ↔ x ∈ b) → a.length = b.length
  | [], b, _, _, h => by
    cases b with
    | nil => rfl
    | cons x b => exact absurd ((h x).mpr List.mem_cons_self) (by simp)
  | x :: a, b, ha, hb, h => by
    rw [List.nodup_cons] at ha
    have hx : x ∈ b := (h x).mp List.mem_cons_self
    have h1 := nodup_same (a := a) (b := b.erase x) ha.2 (hb.erase x) fun y => by
      rw [hb.mem_erase_iff]
      constructor
      · intro hy
        exact ⟨fun e => ha.1 (e ▸ hy), (h y).mp (List.mem_cons_of_mem _ hy)⟩
      · intro ⟨hne, hy⟩
        rcases List.mem_cons.mp ((h y).mpr hy) with e | hy
        · exact absurd e hne
        · exact hy
    rw [List.length_cons, h1, List.length_erase_of_mem hx]
    have := List.length_pos_of_mem hx
    omega
def tLenSetA (K : PySem.W.Frag) (ta : TE) : TE := fun σ H Q => ta σ H fun x H1 => ∃ (l : Addr) (ns : List Int), x = .ref l ∧ (SqL K H1 l (ns.map V.int) ∨ SqT K H1 l (ns.map V.int)) ∧ ns.Nodup ∧ ns.length ≤ 4000 ∧ Q (.int (ns.length : Nat)) H1
theorem pe_lenSetA {a : Expr} {ta : TE} {p p2 q pos : Pos} (hg : Gl X "len") (hm : X.mg "len" = none) (hg2 : Gl X "set") (hm2 : X.mg "set" = none) (ha : PE X a ta) (hc : X.calm = true)
    (na : starEach [a] X.env = (false, eval a X.env) :: starEach [] X.env := by rfl) : PE X (.Call (.Name "len" p) [.Call (.Name "set" p2) [a] [] q] [] pos) (tLenSetA X.K ta) := by
  refine ⟨fun pins s σ H Q I h => ?_⟩
  refine Call_ (ld_blt I hg hm PySem.boot_len ?_)
  refine PyProof.Rows.callWith_builtin1 (PyProof.Rows.args_cons ?_ rfl) rfl rfl
  refine Call_ (ld_blt I hg2 hm2 PyProof.Rows.boot_set ?_)
  refine PyProof.Rows.callWith_type1 (PyProof.Rows.args_cons (thn (ha.run pins s σ H _ I h) fun v s1 ⟨x, H1, I1, r1, q1⟩ => PyProof.Rows.args_nil ?_) na) na rfl
  obtain ⟨l, ns, rfl, hq, hnd, hl, q1⟩ := q1
  cases r1
  rcases hq with hq | hq
  · obtain ⟨its, r, pl, hz⟩ := I1.list hq
    have hlen : its.toArray.size = ns.length := by rw [List.size_toArray, ← r.length, List.length_map]
    refine call_set_list (I1.ok.hd hc) pl.isList (by simpa using r.ints) (by rw [hlen]; unfold scanBound; omega) fun h' tk hS hk => ?_
    refine PyProof.Rows.args_nil ?_
    rw [hlen, RZ.firstMet_nodup hnd ns.length (Nat.le_refl _), List.take_length] at hS
    obtain ⟨o, es, ep, t, ho, hex, hd, _, _, _, hf, hn⟩ := hS
    have I2 : Inv X pins σ H1 { s1 with heap := h', toks := tk } := I1.kept fun b o e => hk b o (Heap.lt_size e) e
    exact call_len_set ho hex hd hf (by rw [hn] <;> omega) ⟨.int ns.length, H1, I2.tok _, ⟨_, by rw [hn]⟩, q1⟩
  · obtain ⟨its, r, pl, hz⟩ := I1.tuple hq
    refine call_set_tupI ns (I1.ok.hd hc) pl (by simpa using r.ints) (by unfold scanBound; omega) fun h' tk c hS hcl hk => ?_
    refine PyProof.Rows.args_nil ?_
    obtain ⟨o, es, ep, t, ho, hex, hd, hgood, hnodup, hmem, hsz, hf, hn, _⟩ := hS
    have hcn : es.size = ns.length := by
      have := nodup_same hnodup hnd fun x => by rw [← hmem x]; simp
      rw [List.length_map, Array.length_toList] at this
      exact this
    have I2 : Inv X pins σ H1 { s1 with heap := h', toks := tk } := I1.kept fun b o e => hk b o e
    exact call_len_set ho hex hd hf (by rw [hcn] <;> omega) ⟨.int ns.length, H1, I2.tok _, ⟨_, by rw [hcn]⟩, q1⟩
def seqD : M → Option (List D)
  | .fz (.tup l) => some l
  | m => asL m
def fLenSet (f : FE) : FE := fun ρ => (f ρ).bind fun a => (a.1.look a.2).bind fun m => (seqD m).bind fun l => (dints l).bind fun ns => if ns.Nodup ∧ ns.length ≤ 4000 then some (.vl (.fz (.int ns.length)), a.2) else none
theorem eLenSet {a : Expr} {f : FE} {p p2 q pos : Pos} (hc : X.calm = true) (hg : Gl X "len") (hm : X.mg "len" = none) (hg2 : Gl X "set") (hm2 : X.mg "set" = none) (ha : EX X a f)
    (na : starEach [a] X.env = (false, eval a X.env) :: starEach [] X.env := by rfl) : EX X (.Call (.Name "len" p) [.Call (.Name "set" p2) [a] [] q] [] pos) (fLenSet f) := PE.imp (pe_lenSetA hg hm hg2 hm2 ha hc na) fun σ H Q ⟨F, τ, θ, ρ, r', ρ', s, e, q⟩ => by
  unfold fLenSet at e
  simp only [Option.bind_eq_some_iff] at e
  obtain ⟨⟨r1, ρ1⟩, e1, m, e2, l, e3, ns, e4, e5⟩ := e
  split at e5
  · rename_i hn
    cases e5
    refine ⟨F, τ, θ, ρ, r1, ρ1, s, e1, fun F1 H1 v s1 o1 => ?_⟩
    have rm := s1.look o1 e2
    have := dints_some e4
    subst this
    have : ∃ a, v = .ref a ∧ (SqL X.K H1 a (ns.map V.int) ∨ SqT X.K H1 a (ns.map V.int)) := by
      unfold seqD at e3
      split at e3
      · cases e3
        obtain ⟨a, xs, z, q1, rs⟩ := rTup rm
        have := rInts rs
        subst this
        exact ⟨a, z, .inr q1⟩
      · obtain ⟨a, xs, z, q1, rs⟩ := rL rm e3
        have := rInts rs
        subst this
        exact ⟨a, z, .inl q1⟩
    obtain ⟨a, z, hq⟩ := this
    exact ⟨a, ns, z, hq, hn.1, hn.2, q F1 H1 _ (s1.pop.push (.int _)) trivial⟩
  · cases e5

/-! ### the law's own call -/
theorem law_in {H : Hp} {a : Addr} {ns : List Int} {g : FF} (h : SqL K H a (ns.map V.int)) (e : ∃ outs, g [.fz (.rol (ns.map .int))] = some (.fz (.bl true), outs)) {E : XK} : spD K 1 g [.ref a] H (fun v _ => v = .bl true) E := by
  obtain ⟨outs, e⟩ := e
  have r : RL K (fun x => x = a ∧ H a = some (.lst (ns.map V.int))) H a (ns.map V.int) := by
    rcases h with (h | h) | h
    · exact .inl ⟨⟨rfl, h⟩, h⟩
    · exact .inr (.inl h)
    · exact .inr (.inr h)
  refine ⟨rfl, _, [], [], [.fz (.rol (ns.map .int))], .fz (.bl true), outs, ⟨⟨c0, _, .nil, .cons (.fz (.rol r (RDs.ofInts ns))) .nil, fun x => ⟨by unfold add c0; omega, fun _ => by unfold add c0; omega⟩⟩, fun b f => ?_⟩, e, fun F' H' v s => ?_⟩
  · obtain ⟨rfl, e⟩ := f
    rw [e]; exact fun z => nomatch z
  · obtain ⟨w, e1, r1⟩ := SR.topD s
    cases e1; cases r1; rfl

/-! ### constants of the module -/
theorem eKi {x : Str} {i : Int} {pos : Pos} (hg : Gl X x) (h : ∃ t, X.mg x = some (.int i t)) (hd : (x == ("__debug__" : Str)) = false := by decide) : EX X (.Name x pos) (fC (.int i)) := by
  obtain ⟨t, ht⟩ := h
  exact eC (w := .int i) (pe_glob hg ht ⟨t, rfl⟩ hd) fun _ _ => .int _
theorem eKs {x : Str} {i : Str} {pos : Pos} (hg : Gl X x) (h : ∃ t, X.mg x = some (.str i t)) (hd : (x == ("__debug__" : Str)) = false := by decide) : EX X (.Name x pos) (fC (.str i)) := by
  obtain ⟨t, ht⟩ := h
  exact eC (w := .str i) (pe_glob hg ht ⟨t, rfl⟩ hd) fun _ _ => .str _

/-! ### a, b, c = x, y, z -/
def gPar3 (C : Nat → Bool) (i j l : Nat) (fa : FA) : FS := fun ρ => match fa ρ with
  | some ([.vl m, .vl m', .vl m''], ρ') => if (i < ρ'.length ∧ j < ρ'.length ∧ l < ρ'.length) ∧ C i = false ∧ C j = false ∧ C l = false then some (.nx (((ρ'.set i (some m)).set j (some m')).set l (some m''))) else none
  | _ => none
theorem sPar3 {i j l : Nat} {x y z : Str} {a b c : Expr} {fa : FA} {px py pz pt pos : Pos} {kt k2 pt2} (hc : X.calm = true) (hN : X.N.Nodup) (hi : X.N[i]? = some x) (hj : X.N[j]? = some y) (hl : X.N[l]? = some z) (hij : i ≠ j) (hil : i ≠ l) (hjl : j ≠ l)
    (hx : X.env.scope.names.lookup x = some .local) (hy : X.env.scope.names.lookup y = some .local) (hz : X.env.scope.names.lookup z = some .local) (ha : AX X [a, b, c] fa)
    (hw : swappedStores [.Tuple [.Name x px, .Name y py, .Name z pz] kt pt] (.Tuple [a, b, c] k2 pt2) X.env = pure (some [x, y, z]))
    (hs : swapsWithSole [.Tuple [.Name x px, .Name y py, .Name z pz] kt pt] (.Tuple [a, b, c] k2 pt2) pos.line X.env = pure false := by rfl) :
    SX X C (.Assign [.Tuple [.Name x px, .Name y py, .Name z pz] kt pt] (.Tuple [a, b, c] k2 pt2) pos) (gPar3 C i j l fa) := PS.imp (ps_par3 hc hN hi hj hl hij hil hjl hx hy hz ha hw hs) fun D σ H ⟨F, τ, θ, ρ, o, s, e, p⟩ => by
  unfold gPar3 at e
  split at e
  · rename_i m m' m'' ρ1 e1
    split at e
    · rename_i h
      obtain ⟨⟨h1, h2, h3⟩, h4, h5, h6⟩ := h
      cases e
      refine ⟨F, τ, θ, ρ, _, ρ1, s, e1, fun F1 H1 vs s1 os => ?_⟩
      cases os with
      | cons o1 os =>
        cases os with
        | cons o2 os =>
          cases os with
          | cons o3 os =>
            cases os
            refine ⟨_, _, _, rfl, p F1 H1 _ (SR.store (SR.store (SR.store s1 h1) (by rw [List.length_set]; exact h2)) (by rw [List.length_set, List.length_set]; exact h3)) ((Keep.set h4).trans ((Keep.set h5).trans (Keep.set h6)))⟩
    · cases e
  · cases e
/-! ### a, b, .. = x, y, .. by a tuple that is unpacked -/
abbrev FGm := List M → Ev → Option Ev
def tGm (K : PySem.W.Frag) (C : Nat → Bool) (f : FGm) : TGs := fun vs σ H Q => ∃ F τ θ ms ρ ρ', SR K F H (vs.map some ++ τ) (ms.map some ++ θ) σ ρ ∧ vs.length = ms.length ∧ f ms ρ = some ρ' ∧ ∀ F' H' σ', SR K F' H' τ θ σ' ρ' → Keep C σ σ' → Q σ' H'
abbrev GmX (X : Cx) (C : Nat → Bool) (es : List Expr) (f : FGm) : Prop := PGs X es (tGm X.K C f)
def gmNil : FGm := fun ds ρ => match ds with
  | [] => some ρ
  | _ => none
def gmCons (g : FG) (gs : FGm) : FGm := fun ds ρ => match ds with
  | d :: r => (g d ρ).bind fun ρ1 => gs r ρ1
  | _ => none
theorem gmNilX : GmX X C [] gmNil := PGs.imp pgs_nil fun v σ H Q ⟨F, τ, θ, ds, ρ, ρ', s, hl, e, q⟩ => by
  unfold gmNil at e
  split at e
  · cases e
    cases v with
    | nil => exact ⟨rfl, q F H σ s .refl⟩
    | cons _ _ => simp at hl
  · cases e
theorem gmConsX {e : Expr} {es : List Expr} {g : FG} {gs : FGm} (h1 : GX X C e g) (h2 : GmX X C es gs) (hs : (assignEach (e :: es) X.env).map (·.2) = assign e X.env :: (assignEach es X.env).map (·.2) := by rfl) : GmX X C (e :: es) (gmCons g gs) := PGs.imp (pgs_cons h1 h2 hs) fun v σ H Q ⟨F, τ, θ, ds, ρ, ρ', s, hl, e, q⟩ => by
  unfold gmCons at e
  split at e
  · rename_i d r
    simp only [Option.bind_eq_some_iff] at e
    obtain ⟨ρ1, e1, e2⟩ := e
    cases v with
    | nil => simp at hl
    | cons x xs =>
      refine ⟨x, xs, rfl, F, _, _, d, ρ, ρ1, s, e1, fun F1 H1 σ1 s1 k1 => ?_⟩
      exact ⟨F1, τ, θ, r, ρ1, ρ', s1, by simpa using hl, e2, fun F2 H2 σ2 s2 k2 => q F2 H2 σ2 s2 (k1.trans k2)⟩
  · cases e
def fUnp (n : Nat) (fa : FA) (gs : FGm) : FS := fun ρ => (fa ρ).bind fun a => (owns a.1).bind fun ms => if ms.length = n ∧ n ≤ 1000 then (gs ms a.2).map .nx else none
theorem sUnp {ts es : List Expr} {kt k2 n : Nat} {fa : FA} {gs : FGm} {pt p2 pos : Pos} (hc : X.calm = true) (ha : AX X es fa) (hg : GmX X C ts gs) (hn : (assignEach ts X.env).length = n := by rfl) (hst : (assignEach ts X.env).findIdx? (·.1) = none := by rfl)
    (hs : swapsWithSole [.Tuple ts kt pt] (.Tuple es k2 p2) pos.line X.env = pure false := by rfl) (hw : swappedStores [.Tuple ts kt pt] (.Tuple es k2 p2) X.env = pure none := by rfl)
    (h1 : (assignEach [.Tuple ts kt pt] X.env).map (·.2) = [assign (.Tuple ts kt pt) X.env] := by rfl) : SX X C (.Assign [.Tuple ts kt pt] (.Tuple es k2 p2) pos) (fUnp n fa gs) := PS.imp (ps_asg (pe_tup ha) (pg_tup hc hg hn hst) hs hw h1) fun D σ H ⟨F, τ, θ, ρ, o, s, e, p⟩ => by
  unfold fUnp at e
  simp only [Option.bind_eq_some_iff] at e
  obtain ⟨⟨rs, ρ1⟩, e1, ms, e2, e3⟩ := e
  split at e3
  · rename_i hl
    simp only [Option.map_eq_some_iff] at e3
    obtain ⟨ρ2, e4, e5⟩ := e3
    subst e5
    refine ⟨F, τ, θ, ρ, rs, ρ1, s, e1, fun F1 H1 vs s1 os => ?_⟩
    have e6 := owns_some e2
    have hl2 : rs.length = ms.length := by have := congrArg List.length e6; simpa using this
    have hl3 := os.len
    refine ⟨by rw [hl3, hl2]; exact k1000 (by omega), fun q hq => ⟨q, vs, rfl, .inl (.inl upd_same), by omega, ?_⟩⟩
    have s2 : SR X.K F1 H1 (vs.map some ++ τ) (rs.map R.own ++ θ) σ ρ1 := s1
    rw [e6] at s2
    exact ⟨F1, τ, θ, ms, ρ1, ρ2, s2.new hq, by omega, e4, fun F2 H2 σ2 s3 k3 => p F2 H2 σ2 s3 k3⟩
  · cases e3
end
end Dv

set_option Elab.async false
set_option linter.all false
set_option maxRecDepth 100000
set_option maxHeartbeats 4000000
/-! Dva: enumerate over tuples, list.index. -/
namespace Dv
open PySem PySem.Spec PyProof.Rows L2
open PySem.AutoSeq1 (wpAny_loadPart')

/-! ### enumerate(tuple) -/
theorem meets_enumerate_newT (l : Addr) (items : Array Value) (n : Nat) (dct : Option Addr) (sl : Array (Option Value)) :
    Meets (Builtin.«enumerate.__new__» ⟨[.type "enumerate", .ref l], []⟩) (fun _ R s => s.heap.get? l = some { cls := .type "tuple", dict := dct, data := .seq items n, slots := sl } ∧
      R (.ok (.ret (.ref (s.heap.push { cls := .type "tuple_iterator", data := .fields #[.ref l, .int 0 0] }).objs.size)))
        { s with heap := (s.heap.push { cls := .type "tuple_iterator", data := .fields #[.ref l, .int 0 0] }).push { cls := .type "enumerate", data := .fields #[.none, .bool false, .ref s.heap.objs.size, rawInt 0, .none, .none] } }) :=
  .of_wp fun prog w A R s h => by
    obtain ⟨hp, g, d, tk, os⟩ := s; obtain ⟨hl, h⟩ := h
    have hsub := sub_enumerate
    have hL : Heap.IsTuple (Shared.heap ⟨hp, g, d, tk, os⟩) l items := ⟨_, hl, rfl, n, rfl⟩
    wp_walk using wpAny_loadPart' hl
    refine wpAny_stack_any fun st => wpAny_pure ?_
    split
    · rename_i c _ _ _ _ _
      cases (c == Value.type "enumerate")
      · wp_walk using wpAny_loadPart' hl, wpAny_pyIter_tuple hL
        exact ⟨_, rfl, h⟩
      · wp_walk using wpAny_loadPart' hl, wpAny_pyIter_tuple hL
        exact ⟨_, rfl, h⟩
    · wp_walk using wpAny_loadPart' hl, wpAny_pyIter_tuple hL
      exact ⟨_, rfl, h⟩
theorem call_enumerate_tuple {prog : Program} {w : World} {A : Around} {E : Value → Shared → Prop} {s : Shared} {l : Addr} {items : Array Value} {Q : Value → Shared → Prop} (hL : s.heap.IsTuple l items)
    (h : ∀ h', IsEnum h' (s.heap.objs.size + 1) s.heap.objs.size 0 .none → h'.IsTupleIter s.heap.objs.size l 0 → h'.objs.size = s.heap.objs.size + 2 →
      (∀ b o, s.heap.get? b = some o → h'.get? b = some o) → Q (.ref (s.heap.objs.size + 1)) { s with heap := h' }) :
    wpAny (model prog w) A (call (.type "enumerate") [.ref l]) Q E s := by
  obtain ⟨⟨c, dct, dt, sl⟩, hl, hc, n, hd⟩ := hL
  replace hc : c = .type "tuple" := hc
  replace hd : dt = .seq items n := hd
  subst hc hd
  refine callType_new F.called_enumerate (by decide) (F.typeCall_enumerate_1 _) (F.newCall_enumerate_1 _) (fun obj => F.args_object_init_2 obj _) F.entry_enumerate_new
    (meets_enumerate_newT l items n dct sl) ⟨hl, ?_⟩
  have hz : (s.heap.push { cls := .type "tuple_iterator", data := .fields #[.ref l, .int 0 0] }).objs.size = s.heap.objs.size + 1 := Heap.size_push ..
  show _ ∧ _
  rw [hz]
  have he : IsEnum ((s.heap.push { cls := .type "tuple_iterator", data := .fields #[.ref l, .int 0 0] }).push
      { cls := .type "enumerate", data := .fields #[.none, .bool false, .ref s.heap.objs.size, rawInt 0, .none, .none] }) (s.heap.objs.size + 1) s.heap.objs.size 0 .none := by
    have := Heap.get?_push_size (s.heap.push { cls := .type "tuple_iterator", data := .fields #[.ref l, .int 0 0] })
      (o := { cls := .type "enumerate", data := .fields #[.none, .bool false, .ref s.heap.objs.size, rawInt 0, .none, .none] }) rfl
    rw [hz] at this; exact this
  refine ⟨⟨_, he, rfl⟩, h _ he ⟨_, Heap.get?_push_of_some _ (Heap.get?_push_size _ rfl), rfl, rfl⟩ (by rw [Heap.size_push, hz]) fun b o x => Heap.get?_push_of_some _ (Heap.get?_push_of_some _ x)⟩
/-- the tuple at a, each item in a new pair -/
def IteT (K : PySem.W.Frag) (a : Addr) : It :=
  ⟨fun i H => ∃ (xs : List V) (x : V), SqT K H a xs ∧ xs[i]? = some x, fun i H v H' => ∃ T x, v = .ref T ∧ H T = none ∧ H' = upd H T (.tup [.int (i : Nat), x]) ∧ ∀ xs, SqT K H a xs → xs[i]? = some x, fun i H => ∃ xs : List V, SqT K H a xs ∧ xs.length ≤ i⟩
theorem turn_enumT {P : Program} {w : World} {K : PySem.W.Frag} {elts : List Expr} {kk : Nat} {tpos : Pos} (a e it : Addr) :
    Turn P w K (.Tuple elts kk tpos) (IteT K a) [e, it] e (fun i h => (∃ old, IsEnum h e it ((i : Nat) : Int) old) ∧ h.IsTupleIter it a i ∧ e ≠ it) where
  mem := by simp
  obj := fun i h st b hb => by
    obtain ⟨⟨old, he⟩, ⟨o, ho, hc, hd⟩, _⟩ := st
    have e' : b = e ∨ b = it := by simpa using hb
    rcases e' with z | z
    · rw [z]; exact ⟨_, he, fun v q => nomatch q⟩
    · rw [z]; exact ⟨o, ho, fun v q => by rw [hd] at q; cases q⟩
  keep := fun i h h' st k => let ⟨⟨old, he⟩, hi, hne⟩ := st; ⟨⟨old, k e (by simp) _ he⟩, hi.at fun o q => k it (by simp) o q, hne⟩
  item := by
    intro X hP hw hK hc i pins s σ H E I hf st hg
    subst hP hw hK
    obtain ⟨⟨old, he⟩, hit, hne⟩ := st
    obtain ⟨xs, x, hq, hx⟩ := hg
    obtain ⟨its, rv, p, hz⟩ := I.tuple hq
    obtain ⟨u, hu, ru⟩ := rv.get hx
    have p' : s.heap.IsTuple a its.toArray := p
    have hel : e < s.heap.objs.size := Heap.lt_size he
    have hil : it < s.heap.objs.size := by obtain ⟨_, q, _⟩ := hit; exact Heap.lt_size q
    have hai : a ≠ it := fun z => by
      subst z
      obtain ⟨o1, q1, c1, _⟩ := p'
      obtain ⟨o2, q2, c2, _⟩ := hit
      rw [q1] at q2; cases q2; rw [c1] at c2; injection c2 with z; exact absurd z (by decide)
    have hae : e ≠ a := fun z => by
      subst z
      obtain ⟨o1, q1, c1, _⟩ := p'
      rw [he] at q1; cases q1; injection c1 with z; exact absurd z (by decide)
    have hlt : i < its.toArray.size := by
      have := (List.getElem?_eq_some_iff.mp hu).1
      simpa using this
    refine wpAny_pyNext_enum_itemD (Draws.tuple (A := X.A.in1) (I.ok.hd hc) it a hai its.toArray) he ⟨hit, p'⟩ hlt hne (by simp [hne, hae]) fun x' h' tk hP ho hst hT hsz hk => ?_
    have ex : x' = u := by
      have : its.toArray[i]? = some x' := hP
      rw [show its.toArray[i]? = its[i]? by simp, hu] at this
      exact (Option.some.inj this).symm
    subst ex
    refine ⟨_, rfl, wpAny_letOwnedTupleGo_enum (s := { s with heap := h', toks := tk + 1 }) ho fun h'' he' sb => ?_⟩
    have hT2 : h''.get? s.heap.objs.size = some { cls := .type "tuple", data := .seq #[.int i tk, x'] } := (sb.2 _ (Nat.ne_of_gt hel)).trans hT
    have new : ObjOk X.prog X.w (upd H s.heap.objs.size (.tup [.int (i : Nat), x])) h'' s.heap.objs.size (.tup [.int (i : Nat), x]) :=
      ⟨by show 2 ≤ sizeLine; decide, [.int i tk, x'], .cons ⟨_, rfl⟩ (.cons ru .nil), ⟨_, hT2, rfl, _, rfl⟩⟩
    have I1 : Inv X pins σ (upd H s.heap.objs.size (.tup [.int (i : Nat), x])) { s with heap := h'', toks := tk + 1 } :=
      I.turnedNew (ch := [e, it]) (fun b ob hb q => (sb.2 b (fun z => hb (by simp [z]))).trans (hk b ob (fun z => hb (by simp [z])) (fun z => hb (by simp [z])) q)) hf (Nat.le_refl _) new
    refine ⟨.ref s.heap.objs.size, _, I1, rfl, ⟨_, x, rfl, I.hok.fresh (Nat.le_refl _), rfl, fun ys hy => by rw [I.tuple_inj hy hq]; exact hx⟩, ⟨⟨x', ?_⟩, hst.1.at fun o q => (sb.2 it (Ne.symm hne)).trans q, hne⟩, fun b hb => ?_⟩
    · have e1 : ((i + 1 : Nat) : Int) = (i : Int) + 1 := by omega
      rw [e1]; exact he'
    · have hb' : b < s.heap.objs.size := by
        have e' : b = e ∨ b = it := by simpa using hb
        rcases e' with z | z
        · rw [z]; exact hel
        · rw [z]; exact hil
      rw [upd_ne (Nat.ne_of_lt hb')]
      exact (hf b hb).1
  done := by
    intro X hP hw hK hc i pins s σ H E I hf st hg
    subst hP hw hK
    obtain ⟨⟨old, he⟩, hit, hne⟩ := st
    obtain ⟨xs, hq, hx⟩ := hg
    obtain ⟨its, rv, p, hz⟩ := I.tuple hq
    have p' : s.heap.IsTuple a its.toArray := p
    obtain ⟨f0, f1, f2, f3, f4, f5⟩ := hf it (by simp)
    have hl := rv.length
    have hT : s.TypeIs (.ref e) "enumerate" := ⟨_, he, rfl⟩
    unfold pyNext
    refine wpAny_bind (wpAny_attempt (wpAny_callSpecial?_slot (name := Str.ofString "__next__") hT F.slot_enumerate_next
      (wpAny_call_entry F.slot_enumerate_next hT F.entry_enumerate_next ?_ (F.args_enumerate_next_1 _))))
    show wpAny _ _ (field (.ref e) 2 >>= _) _ _ _
    refine wpAny_bind (wpAny_field he rfl (x := .ref it) rfl ?_)
    refine wpAny_bind (wpAny_nextOf_tuple_end (A := X.A.in1) (I.ok.hd hc) hit p' (by simp; omega) fun h' x he' hx' => ?_)
    obtain ⟨o, ho, hc'⟩ := hx'
    refine wpAny_bind (wpAny_isInstance (T := "StopIteration") (b := true) ⟨o, ho, hc'⟩ isSubtype_stop ?_)
    exact wpAny_pure ⟨rfl, I.turned (t' := s.toks) (fun b o hb q => he' b o hb q) f0 f1 f3 f4 f5⟩
  self := fun A i s Q E st h => let ⟨⟨_, he⟩, _⟩ := st; wpAny_pyIter_enum he h
def iEnumA (K : PySem.W.Frag) (ta : TA) : TI := fun σ H R => ta σ H fun vs H1 => ∃ a xs, vs = [.ref a] ∧ ((SqL K H1 a xs ∧ R (Ite K a) H1) ∨ (SqT K H1 a xs ∧ R (IteT K a) H1))
theorem pi_enumA {X : Cx} {e : Expr} {ta : TA} {p pos tpos : Pos} {elts : List Expr} {kk : Nat} (hg : Gl X "enumerate") (hm : X.mg "enumerate" = none) (ha : PA X [e] ta) (hs : starEach [e] X.env = [(false, eval e X.env)] := by rfl) :
    PI X (.Tuple elts kk tpos) (.Call (.Name "enumerate" p) [e] [] pos) (iEnumA X.K ta) := by
  refine ⟨fun pins s σ H R I h => ?_⟩
  refine Call_ (ld_blt I hg hm boot_enumerate (PyProof.Rows.callWith_type1 (thn (ha.run pos pins s σ H _ I h) fun us s1 ⟨vs, H1, I1, r1, q1⟩ => ?_) hs rfl))
  obtain ⟨a, xs, ex, q1⟩ := q1
  subst ex
  cases r1 with
  | cons r rr =>
    cases rr
    cases r
    have fin : ∀ b ∈ [s1.heap.objs.size + 1, s1.heap.objs.size], FpOk X pins H1 b := fun b hb => by
      have e' : b = s1.heap.objs.size + 1 ∨ b = s1.heap.objs.size := by simpa using hb
      have hle : s1.heap.objs.size ≤ b := by
        rcases e' with z | z
        · rw [z]; exact Nat.le_add_right _ _
        · rw [z]; exact Nat.le_refl _
      exact I1.fpOk hle (I1.hok.fresh hle)
    rcases q1 with ⟨hq, q⟩ | ⟨hq, q⟩
    · obtain ⟨its, rv, p', hz⟩ := I1.list hq
      refine call_enumerate_list p'.isList fun h' he hit hsz hk => wpAny_pyIter_enum he ?_
      have I2 : Inv X pins σ H1 { s1 with heap := h' } := I1.kept (t' := s1.toks) hk
      exact ⟨s1.heap.objs.size + 1, [s1.heap.objs.size + 1, s1.heap.objs.size], _, _, H1, rfl, I2, turn_enum a (s1.heap.objs.size + 1) s1.heap.objs.size, ⟨⟨.none, he⟩, hit, Nat.succ_ne_self _⟩, fin, q⟩
    · obtain ⟨its, rv, p', hz⟩ := I1.tuple hq
      refine call_enumerate_tuple (show s1.heap.IsTuple a its.toArray from p') fun h' he hit hsz hk => wpAny_pyIter_enum he ?_
      have I2 : Inv X pins σ H1 { s1 with heap := h' } := I1.kept (t' := s1.toks) hk
      exact ⟨s1.heap.objs.size + 1, [s1.heap.objs.size + 1, s1.heap.objs.size], _, _, H1, rfl, I2, turn_enumT a (s1.heap.objs.size + 1) s1.heap.objs.size, ⟨⟨.none, he⟩, hit, Nat.succ_ne_self _⟩, fin, q⟩
section
variable {X : Cx} {K : PySem.W.Frag} {F F' : Addr → Prop} {H H' : Hp}
theorem wk_enumT {a : Addr} {ds : List D} : Wk K (IteT K a) (some (.ref a)) (some (.fz (.tup ds))) (enD 0 ds) where
  go := fun F H τ θ σ ρ i e s h => by
    obtain ⟨d, hd, he⟩ := enD_get ds 0 i e h
    subst he
    obtain ⟨v, e1, r⟩ := s.topD
    cases e1
    cases r with
    | tup q rs =>
      obtain ⟨x, hx, rx⟩ := rs.at hd
      refine ⟨⟨_, x, q, hx⟩, fun y H' ⟨T, x', e1, hT, e2, hy⟩ => ?_⟩
      subst e1 e2
      have := hy _ q
      rw [hx] at this; cases this
      refine ⟨F, (s.new hT).push (.tup (.inl (.inl upd_same)) (.cons ?_ (.cons (rx.grow (Grow.new hT)) .nil)))⟩
      rw [Nat.zero_add]
      exact .int _
  stop := fun F H τ θ σ ρ i s h => by
    rw [enD_len] at h
    obtain ⟨v, e, r⟩ := s.topD
    cases e
    cases r with
    | tup q rs => exact ⟨_, q, by rw [rs.len]; exact h⟩
def fEnumA (fa : FA) : FI := fun ρ => match fa ρ with
  | some ([.vl (.fz d)], ρ') => (seqOf d).map fun l => (enD 0 l, ρ')
  | _ => none
theorem iEnumAX {e : Expr} {fa : FA} {p pos tpos : Pos} {elts : List Expr} {kk : Nat} (hg : Gl X "enumerate") (hm : X.mg "enumerate" = none) (ha : AX X [e] fa) (hs : starEach [e] X.env = [(false, eval e X.env)] := by rfl) :
    IX X (.Tuple elts kk tpos) (.Call (.Name "enumerate" p) [e] [] pos) (fEnumA fa) := PI.imp (pi_enumA hg hm ha hs) fun σ H R ⟨F, τ, θ, ρ, ds, ρ', s, e, q⟩ => by
  unfold fEnumA at e
  split at e
  · simp only [Option.map_eq_some_iff] at e
    rename_i d ρ1 e1
    obtain ⟨l, e2, e3⟩ := e
    cases e3
    refine ⟨F, τ, θ, ρ, _, _, s, e1, fun F1 H1 vs s1 os => ?_⟩
    cases os with
    | @cons vv _ _ _ o1 os =>
      cases os
      obtain ⟨v', e4, r⟩ := SR.topD s1
      cases e4
      cases r with
      | lst f qq rs => cases e2; exact ⟨_, _, rfl, .inl ⟨.inl (.inl qq), q F1 H1 _ _ _ s1 (wk_enum (.inl rfl))⟩⟩
      | rol qq rs => cases e2; exact ⟨_, _, rfl, .inl ⟨qq.sq, q F1 H1 _ _ _ s1 (wk_enum (.inr rfl))⟩⟩
      | tup qq rs => cases e2; exact ⟨_, _, rfl, .inr ⟨qq, q F1 H1 _ _ _ s1 wk_enumT⟩⟩
      | _ => cases e2
  · cases e

/-! ### l.index(x) : the first equal one, which is there -/
def idxD (x : D) : List D → Option Nat
  | [] => none
  | d :: ds => if deq d x then some 0 else (idxD x ds).map (· + 1)
theorem idxD_some {x : D} : ∀ {ds : List D} {j : Nat}, idxD x ds = some j → ∃ z, ds[j]? = some z ∧ deq z x = true ∧ ∀ m z', m < j → ds[m]? = some z' → deq z' x = false
  | [], j, h => by cases h
  | d :: ds, j, h => by
    unfold idxD at h
    split at h
    · rename_i c
      cases h
      exact ⟨d, rfl, c, fun m z' hm => by omega⟩
    · rename_i c
      simp only [Option.map_eq_some_iff] at h
      obtain ⟨k, h1, h2⟩ := h
      subst h2
      obtain ⟨z, a, b, e⟩ := idxD_some h1
      refine ⟨z, by simpa using a, b, fun m z' hm hz => ?_⟩
      cases m with
      | zero => simp at hz; subst hz; simpa using c
      | succ m => exact e m z' (by omega) (by simpa using hz)
theorem toPs_at : ∀ (ds : List D) (j : Nat), (toPs ds)[j]? = (ds[j]?).map toP
  | [], j => by simp [toPs]
  | d :: ds, 0 => rfl
  | d :: ds, j + 1 => toPs_at ds j
def isLs : M → Bool
  | .ow _ => true
  | .fz (.lst _) => true
  | .fz (.rol _) => true
  | _ => false
def sIdx : M → M → Option O := fun m1 m2 => (asL m1).bind fun l => if (nds l && nd m2.frz && SeqAt.shaped (.list (toPs l)) && SeqAt.shaped (toP m2.frz)) = true then (idxD m2.frz l).map fun j => .ex (.int (j : Nat)) else none
def fIdx (fo fx : FE) : FE := fun ρ => (fo ρ).bind fun a => (a.1.look a.2).bind fun m0 => if isLs m0 = true then (fx a.2).bind fun b => (a.1.look b.2).bind fun m1 => (b.1.look b.2).bind fun m2 => (sIdx m1 m2).map fun o => (.vl o.m, b.2) else none
theorem isLs_ty {v : V} {m : M} (r : RMok K F H v m) (h : isLs m = true) : tyV K "list" v H := by
  obtain ⟨c, r, _⟩ := r
  cases r with
  | fz r =>
    cases r with
    | lst f q rs => exact .inl ⟨rfl, _, .inl (.inl q)⟩
    | rol q rs => exact .inl ⟨rfl, _, q.sq⟩
    | _ => cases h
  | ow e q => exact .inl ⟨rfl, _, .inl (.inl e)⟩
  | dc => cases h
theorem eIdx {o e : Expr} {fo fx : FE} {apos cpos : Pos} (hu : X.A.units + 65 < cLine) (ho : EX X o fo) (he : EX X e fx)
    (hbase : attributeBase o "index" X.env (eval o X.env) = eval o X.env := by rfl)
    (hfew : ((backTo cpos (starEach [e] X.env)).all (fun x => !x.1) && (backToKw cpos (keywordEach [] X.env)).all (fun x => x.1.isSome)
      && decide ([e].length + ([] : List Keyword).length + (if ([] : List Keyword).isEmpty then 0 else 1) < 30)) = true := by rfl)
    (hline : (apos.endLine == cpos.line) = true := by rfl) (hs : starEach [e] X.env = (false, eval e X.env) :: starEach [] X.env := by rfl) (hplain : (backTo cpos (starEach [] X.env)).any (·.1) = false := by rfl) :
    EX X (.Call (.Attribute o "index" apos) [e] [] cpos) (fIdx fo fx) := PE.imp (pe_bm PySem.F.plainAttrs_list PySem.F.slot_list_index PySem.F.type_list_index (mt_indexD hu) ho (aCons he aNil hs) hbase hfew hline hs hplain) fun σ H Q ⟨F, τ, θ, ρ, r', ρ', s, e, q⟩ => by
  unfold fIdx at e
  simp only [Option.bind_eq_some_iff] at e
  obtain ⟨⟨r1, ρ1⟩, e1, m0, e0, e⟩ := e
  split at e
  · rename_i hL
    simp only [Option.bind_eq_some_iff, Option.map_eq_some_iff] at e
    obtain ⟨⟨r2, ρ2⟩, e2, m1, e3, m2, e4, o, e5, e6⟩ := e
    cases e6
    refine ⟨F, τ, θ, ρ, r1, ρ1, s, e1, fun F1 H1 x s1 o1 => ⟨isLs_ty (s1.look o1 e0) hL, F1, _, _, ρ1, [r2], ρ2, s1, ?_, fun F2 H2 xs s2 os => ?_⟩⟩
    · show fCons fx fNil ρ1 = _
      unfold fCons fNil
      rw [e2]; rfl
    · cases os with
      | @cons y _ _ _ o2 os =>
        cases os
        have s2' : SR X.K F2 H2 (some y :: some x :: τ) (r2.own :: r1.own :: θ) σ ρ2 := s2
        have k1 := s2'.under.look o1 e3
        have k2 := s2'.look o2 e4
        unfold sIdx at e5
        simp only [Option.bind_eq_some_iff] at e5
        obtain ⟨l, e7, e8⟩ := e5
        split at e8
        · rename_i hc
          simp only [Bool.and_eq_true] at hc
          obtain ⟨⟨⟨c1, c2⟩, c3⟩, c4⟩ := hc
          simp only [Option.map_eq_some_iff] at e8
          obtain ⟨j, e9, e10⟩ := e8
          subst e10
          obtain ⟨z, z1, z2, z3⟩ := idxD_some e9
          obtain ⟨a, vs, ea, hq, rs⟩ := rL k1 e7
          subst ea
          obtain ⟨c, k2, _⟩ := k2
          refine ⟨a, y, toP m2.frz, toPs l, j, toP z, rfl, rfl, .lst hq (rs.dp c1), k2.dp c2, c3, c4, ?_, z2, fun m z' hm hz => ?_, q F2 H2 _ (s2'.pop.pop.push (.int _)) trivial⟩
          · rw [toPs_at, z1]; rfl
          · rw [toPs_at] at hz
            simp only [Option.map_eq_some_iff] at hz
            obtain ⟨w, hw, hz⟩ := hz
            subst hz
            exact z3 m w hm hw
        · cases e8
  · cases e
end
theorem units65 {k : Nat} {A : Around} (r : Room k A) : A.units + 65 < cLine := by have := r.un; omega
end Dv

set_option Elab.async false
set_option linter.all false
set_option maxRecDepth 100000
set_option maxHeartbeats 4000000
/-! Dvb: comprehensions with two fors. -/
namespace Dv
open PySem PySem.Spec PyProof.Rows L2
section
variable {K : PySem.W.Frag} {F : Addr → Prop} {H : Hp} {τ : List (Option V)} {θ : List (Option M)} {σ : List (Option V)} {ρ : Ev}
/-- the loop of one clause, on a list that stands below its source -/
theorem compL_run {J : It} {ov : Option V} {om : Option M} {ds : List D} {g : FG} {ft : FT} {fe : FE} {vs : List Nat} {D : Addr} {acc res : List M} {ρe : Ev} {Qd : Hp → Prop}
    (wk : Wk K J ov om ds) (s1 : SR K F H (ov :: some (.ref D) :: τ) (om :: some (.ow acc) :: θ) (wipe σ vs) (wipeE ρ vs))
    (e2 : fCompL g ft fe vs ds acc (wipeE ρ vs) = some (res, ρe))
    (q : ∀ F' H' ρ', ρe = wipeE ρ' vs → SR K F' H' (ov :: some (.ref D) :: τ) (om :: some (.ow res) :: θ) (wipe σ vs) (wipeE ρ' vs) → Qd H') :
    ∃ W : Nat → Nat → Hp → Prop, (∃ m, W 0 m H) ∧ ∀ i m H, W i m H →
      (J.stop i H ∧ Qd H) ∨ (J.go i H ∧ ∃ Nx : Hp → Prop, (∀ H', Nx H' → ∃ m', m' < m ∧ W (i + 1) m' H') ∧ ∀ x H', J.yld i H x H' →
        (tG K (fun i => !vs.contains i) g) x (wipe σ vs) H' fun σ2 H2 => wipe σ2 vs = wipe σ vs ∧ (tT K ft) σ2 H2 fun b H3 =>
          if b = true then (tE K fe) σ2 H3 fun y H4 => ∃ acc, H4 D = some (.lst acc) ∧ acc.length < sizeLine ∧ Nx (upd H4 D (.lst (acc ++ [y]))) else Nx H3) := by
  refine ⟨fun i m H2 => m = ds.length - i ∧ i ≤ ds.length ∧ ∃ F2 ρ2 acc, SR K F2 H2 (ov :: some (.ref D) :: τ) (om :: some (.ow acc) :: θ) (wipe σ vs) (wipeE ρ2 vs) ∧ fCompL g ft fe vs (ds.drop i) acc (wipeE ρ2 vs) = some (res, ρe), ⟨ds.length, by simp, Nat.zero_le _, F, ρ, acc, s1, by simpa using e2⟩, ?_⟩
  rintro i m H2 ⟨rfl, hi, F2, ρ2, acc, s2, e3⟩
  by_cases hlt : i < ds.length
  · have hd : ds[i]? = some ds[i] := List.getElem?_eq_getElem hlt
    obtain ⟨go, yl⟩ := wk.go F2 H2 _ _ _ _ i _ s2 hd
    rw [List.drop_eq_getElem_cons hlt] at e3
    unfold fCompL at e3
    simp only [Option.bind_eq_some_iff] at e3
    obtain ⟨ρ3, e4, ⟨b, ρ4⟩, e5, e6⟩ := e3
    refine .inr ⟨go, fun H' => i + 1 ≤ ds.length ∧ ∃ F2 ρ2 acc, SR K F2 H' (ov :: some (.ref D) :: τ) (om :: some (.ow acc) :: θ) (wipe σ vs) (wipeE ρ2 vs) ∧ fCompL g ft fe vs (ds.drop (i + 1)) acc (wipeE ρ2 vs) = some (res, ρe), fun H' h => ⟨ds.length - (i + 1), by omega, rfl, h.1, h.2⟩, fun x H3 y => ?_⟩
    obtain ⟨F3, s3⟩ := yl x H3 y
    refine ⟨F3, _, _, _, _, ρ3, s3, e4, fun F4 H4 σ4 s4 k4 => ⟨wipe_keep k4, F4, _, _, ρ3, b, ρ4, s4, e5, fun F5 H5 s5 => ?_⟩⟩
    cases b with
    | false =>
      refine iteF ⟨hlt, F5, ρ4, acc, ?_, e6⟩
      have := SR.wiped vs s5
      rw [wipe_keep k4] at this
      exact this
    | true =>
      simp only [if_true] at e6
      split at e6
      · rename_i mm ρ6 e7
        split at e6
        · rename_i hacc
          refine iteT ⟨F5, _, _, ρ4, _, ρ6, s5, e7, fun F6 H6 y s6 _ => ?_⟩
          obtain ⟨a, xs, ea, ha, hl, s7⟩ := SR.grown (SR.mid (os := [some y, ov]) (ms := [some mm, om]) s6 rfl |>.under)
          cases ea
          refine ⟨xs, ha, by rw [hl]; exact k100000 hacc, hlt, F6, ρ6, acc ++ [mm], ?_, e6⟩
          have := SR.wiped vs (SR.under s7)
          rw [wipe_keep k4] at this
          exact this
        · cases e6
      · cases e6
  · have e : i = ds.length := by omega
    subst e
    rw [List.drop_length] at e3
    cases e3
    exact .inl ⟨wk.stop F2 H2 _ _ _ _ _ s2 (Nat.le_refl _), q F2 H2 ρ2 rfl s2⟩
theorem wipe_wipe {σ : List (Option V)} {vs vs1 : List Nat} (h : ∀ i ∈ vs1, i ∈ vs) : wipe (wipe σ vs1) vs = wipe σ vs := by
  refine List.ext_getElem? fun j => ?_
  rw [wipe_get, wipe_get, wipe_get, wipe_length]
  by_cases hj : j ∈ vs
  · rw [if_pos hj, if_pos hj]
  · rw [if_neg hj, if_neg hj, if_neg fun z => hj (h j z)]
def fComp2L (g : FG) (ft : FT) (fi1 : FI) (g1 : FG) (ft1 : FT) (fe : FE) (vs vs1 : List Nat) : List D → List M → Ev → Option (List M × Ev)
  | [], acc, ρ => some (acc, ρ)
  | d :: ds, acc, ρ => (g (.fz d) ρ).bind fun ρ1 => (ft ρ1).bind fun a => if a.1 then
      ((fi1 a.2).bind fun b => (fCompL g1 ft1 fe vs1 b.1 acc (wipeE b.2 vs1)).bind fun c => fComp2L g ft fi1 g1 ft1 fe vs vs1 ds c.1 (wipeE c.2 vs))
      else fComp2L g ft fi1 g1 ft1 fe vs vs1 ds acc (wipeE a.2 vs)
def fComp2 (fi : FI) (g : FG) (ft : FT) (fi1 : FI) (g1 : FG) (ft1 : FT) (fe : FE) (vs vs1 : List Nat) : FE := fun ρ => (fi ρ).bind fun a => (fComp2L g ft fi1 g1 ft1 fe vs vs1 a.1 [] (wipeE a.2 vs)).map fun b => (.vl (.ow b.1), b.2)
theorem comp2_run {fi fi1 : FI} {g g1 : FG} {ft ft1 : FT} {fe : FE} {vs vs1 : List Nat} {Q : VK} (hv : ∀ i ∈ vs1, i ∈ vs) (h : tE K (fComp2 fi g ft fi1 g1 ft1 fe vs vs1) σ H Q) :
    tLc2 (tI K fi) (tG K (fun i => !vs.contains i) g) (tT K ft) (tI K fi1) (tG K (fun i => !vs1.contains i) g1) (tT K ft1) (tE K fe) vs vs1 σ H Q := by
  obtain ⟨F, τ, θ, ρ, r', ρ', s, e, q⟩ := h
  unfold fComp2 at e
  simp only [Option.bind_eq_some_iff, Option.map_eq_some_iff] at e
  obtain ⟨⟨ds, ρ1⟩, e1, ⟨res, ρe⟩, e2, e3⟩ := e
  cases e3
  refine ⟨F, τ, θ, ρ, ds, ρ1, s, e1, fun F1 H1 J ov om s1 wk D hD => ?_⟩
  refine ⟨fun i m H2 => m = ds.length - i ∧ i ≤ ds.length ∧ ∃ F2 ρ2 acc, SR K F2 H2 (ov :: some (.ref D) :: τ) (om :: some (.ow acc) :: θ) (wipe σ vs) (wipeE ρ2 vs) ∧ fComp2L g ft fi1 g1 ft1 fe vs vs1 (ds.drop i) acc (wipeE ρ2 vs) = some (res, ρe), ⟨ds.length, by simp, Nat.zero_le _, F1, ρ1, [], ?_, by simpa using e2⟩, ?_⟩
  · obtain ⟨⟨c, d, r1, r2, n⟩, fd⟩ := s1
    exact SR.under (SR.wiped vs (SR.newMut .nil r1 r2 (fun x => by unfold c0; have := n x; exact ⟨by omega, fun f => by have := this.2 f; omega⟩) fd hD))
  rintro i m H2 ⟨rfl, hi, F2, ρ2, acc, s2, e3⟩
  by_cases hlt : i < ds.length
  · have hd : ds[i]? = some ds[i] := List.getElem?_eq_getElem hlt
    obtain ⟨go, yl⟩ := wk.go F2 H2 _ _ _ _ i _ s2 hd
    rw [List.drop_eq_getElem_cons hlt] at e3
    unfold fComp2L at e3
    simp only [Option.bind_eq_some_iff] at e3
    obtain ⟨ρ3, e4, ⟨b, ρ4⟩, e5, e6⟩ := e3
    refine .inr ⟨go, fun H' => i + 1 ≤ ds.length ∧ ∃ F2 ρ2 acc, SR K F2 H' (ov :: some (.ref D) :: τ) (om :: some (.ow acc) :: θ) (wipe σ vs) (wipeE ρ2 vs) ∧ fComp2L g ft fi1 g1 ft1 fe vs vs1 (ds.drop (i + 1)) acc (wipeE ρ2 vs) = some (res, ρe), fun H' h => ⟨ds.length - (i + 1), by omega, rfl, h.1, h.2⟩, fun x H3 y => ?_⟩
    obtain ⟨F3, s3⟩ := yl x H3 y
    refine ⟨F3, _, _, _, _, ρ3, s3, e4, fun F4 H4 σ4 s4 k4 => ⟨wipe_keep k4, F4, _, _, ρ3, b, ρ4, s4, e5, fun F5 H5 s5 => ?_⟩⟩
    cases b with
    | false =>
      refine iteF ⟨hlt, F5, ρ4, acc, ?_, e6⟩
      have := SR.wiped vs s5
      rw [wipe_keep k4] at this
      exact this
    | true =>
      simp only [if_true, Option.bind_eq_some_iff] at e6
      obtain ⟨⟨ds1, ρ5⟩, e7, ⟨acc2, ρ6⟩, e8, e9⟩ := e6
      refine iteT ⟨F5, _, _, ρ4, ds1, ρ5, s5, e7, fun F6 H6 J1 o1 m1 s6 wk1 => ?_⟩
      have s6' : SR K F6 H6 (o1 :: some (.ref D) :: ov :: τ) (m1 :: some (.ow acc) :: om :: θ) (wipe σ4 vs1) (wipeE ρ5 vs1) := by
        have z := SR.wiped vs1 s6
        exact (SR.mid (os := [o1, ov]) (ms := [m1, om]) z rfl).under
      refine compL_run wk1 s6' e8 fun F7 H7 ρ7 hz s7 => ⟨hlt, F7, ρ6, acc2, ?_, e9⟩
      have z := SR.wiped vs (SR.under s7.pop)
      rw [wipe_wipe hv, wipe_keep k4, ← hz] at z
      exact z
  · have e : i = ds.length := by omega
    subst e
    rw [List.drop_length] at e3
    cases e3
    exact .inl ⟨wk.stop F2 H2 _ _ _ _ _ s2 (Nat.le_refl _), q F2 H2 _ (SR.unwiped vs s2.pop) trivial⟩
end
section
variable {X : Cx} {elt tg iter tg1 iter1 : Expr} {ifs ifs1 : List Expr} {scope : Scope} {own : List (Str × Nat)} {vs1 : List Nat} {pos : Pos} {fi fi1 : FI} {g g1 : FG} {ft ft1 : FT} {fe : FE} {C : Nat → Bool}
abbrev cNt (vs : List Nat) : Nat → Bool := fun i => !vs.contains i
abbrev BI (X : Cx) (scope : Scope) (tg e : Expr) (fi : FI) : Prop := ∀ (s : Shared) (H : Hp) (Cc : Addr) (cl : List (Str × Addr)) (fp : List Addr), PI (X.blk s H scope (compEnvC scope cl Cc X.env) fp) tg e (tI X.K fi)
theorem eComp2 (hc : X.calm = true) (hN : X.N.Nodup) (hi : IX X tg iter fi) (ok : BlkOk X.N X.env.scope scope own) (hv : ∀ i ∈ vs1, i ∈ own.map (·.2)) (hg : BG X scope tg (fun i => !(own.map (·.2)).contains i) g) (ht : BT X scope ifs ft)
    (hi1 : BI X scope tg1 iter1 fi1) (hg1 : BG X scope tg1 (fun i => !vs1.contains i) g1) (ht1 : BT X scope ifs1 ft1) (he : BE X scope elt fe)
    (hs : ∀ x, foldedSetIterable iter X.env x = pure x := by intro _; rfl) (hs1 : ∀ env x, foldedSetIterable iter1 env x = pure x := by intro _ _; rfl) :
    EX X (.ListComp elt [⟨tg, iter, ifs, 0⟩, ⟨tg1, iter1, ifs1, 0⟩] scope pos) (fComp2 fi g ft fi1 g1 ft1 fe (own.map (·.2)) vs1) :=
  PE.imp (pe_lc2 hc hN hi ok hv hg ht hi1 hg1 ht1 he hs hs1) fun σ H Q h => comp2_run hv h
theorem sSetLc2 {i : Nat} {y : Str} {py spos : Pos} {f : FE} (hf : ∀ σ H Q, tE X.K f σ H Q → tE X.K (fComp2 fi g ft fi1 g1 ft1 fe (own.map (·.2)) vs1) σ H Q) (hc : X.calm = true) (hN : X.N.Nodup) (hy : X.N[i]? = some y) (hyl : X.env.scope.names.lookup y = some .local)
    (hsw : swapsWith (.ListComp elt [⟨tg, iter, ifs, 0⟩, ⟨tg1, iter1, ifs1, 0⟩] scope pos) (some (.Name y py)) spos.line X.env = pure true) (hi : IX X tg iter fi) (ok : BlkOk X.N X.env.scope scope own) (hv : ∀ i ∈ vs1, i ∈ own.map (·.2)) (hg : BG X scope tg (fun i => !(own.map (·.2)).contains i) g) (ht : BT X scope ifs ft)
    (hi1 : BI X scope tg1 iter1 fi1) (hg1 : BG X scope tg1 (fun i => !vs1.contains i) g1) (ht1 : BT X scope ifs1 ft1) (he : BE X scope elt fe)
    (hs : ∀ x, foldedSetIterable iter X.env x = pure x := by intro _; rfl) (hs1 : ∀ env x, foldedSetIterable iter1 env x = pure x := by intro _ _; rfl) :
    SX X C (.Assign [.Name y py] (.ListComp elt [⟨tg, iter, ifs, 0⟩, ⟨tg1, iter1, ifs1, 0⟩] scope pos) spos) (fAsg f (gN C i)) :=
  PS.imp (ps_setLc2 hc hN hy hyl hsw hi ok hv hg ht hi1 hg1 ht1 he hs hs1) fun D σ H ⟨F, τ, θ, ρ, o, s, e, p⟩ => by
  unfold fAsg at e
  split at e
  · rename_i m ρ1 e1
    simp only [Option.map_eq_some_iff] at e
    obtain ⟨ρ2, e2, e3⟩ := e
    subst e3
    refine comp2_run hv (hf _ _ _ ⟨F, τ, θ, ρ, .vl m, ρ1, s, e1, fun F1 H1 v s1 _ => ?_⟩)
    unfold gN at e2
    split at e2
    · rename_i hc
      cases e2
      exact p F1 H1 _ (s1.store hc.1) (Keep.set hc.2)
    · cases e2
  · cases e
end
/-! ### range with a step -/
section
variable {K : PySem.W.Frag} {X : Cx}
def rgC (lo c : Int) (n : Nat) : List D := (List.range n).map fun i => .int (lo + (i : Nat) * c)
theorem rgC_len (lo c : Int) (n : Nat) : (rgC lo c n).length = n := by unfold rgC; simp
theorem wk_rangeC {lo c : Int} {n : Nat} {o : Option V} {m : Option M} : Wk K (Itc lo c n) o m (rgC lo c n) where
  go := fun F H τ θ σ ρ i d s h => by
    have hi : i < n := by have := (List.getElem?_eq_some_iff.mp h).1; rw [rgC_len] at this; exact this
    have hd : d = .int (lo + (i : Nat) * c) := by
      unfold rgC at h
      rw [List.getElem?_map, List.getElem?_range hi] at h
      exact (Option.some.inj h).symm
    subst hd
    exact ⟨hi, fun x H' ⟨e1, e2⟩ => by subst e1 e2; exact ⟨F, s.push (.int _)⟩⟩
  stop := fun F H τ θ σ ρ i s h => by rw [rgC_len] at h; exact h
def okC (i j c : Int) : Bool := decide (c ≠ 0) && decide (c.natAbs < 1073741824) && Builtin.Range.small i j c && decide (0 ≤ Builtin.Range.rangeSize i j c)
def szC (i j c : Int) : Nat := (Builtin.Range.rangeSize i j c).toNat
def fRg3 (fa : FA) : FI := fun ρ => match fa ρ with
  | some ([.vl (.fz (.int i)), .vl (.fz (.int j)), .vl (.fz (.int c))], ρ') => if okC i j c then some (rgC i c (szC i j c), ρ') else none
  | _ => none
theorem iRg3 {tg a b c : Expr} {fa : FA} {p pos : Pos} (hg : Gl X "range") (hm : X.mg "range" = none) (ha : AX X [a, b, c] fa)
    (hs : starEach [a, b, c] X.env = (false, eval a X.env) :: starEach [b, c] X.env := by rfl) (hpl : (backTo pos (starEach [b, c] X.env)).any (·.1) = false := by rfl) :
    IX X tg (.Call (.Name "range" p) [a, b, c] [] pos) (fRg3 fa) := PI.imp (pi_range3 hg hm ha hs hpl) fun σ H R ⟨F, τ, θ, ρ, ds, ρ', s, e, q⟩ => by
  unfold fRg3 at e
  split at e
  · rename_i i j c ρ1 e1
    split at e
    · rename_i hj
      cases e
      unfold okC at hj
      simp only [Bool.and_eq_true, decide_eq_true_eq] at hj
      refine ⟨F, τ, θ, ρ, _, _, s, e1, fun F1 H1 vs s1 os => ?_⟩
      cases os with
      | cons o1 os =>
        cases os with
        | cons o2 os =>
          cases os with
          | cons o3 os =>
            cases os
            obtain ⟨v', e4, r⟩ := SR.topD s1
            cases e4
            cases r
            obtain ⟨v', e4, r⟩ := SR.topD (SR.pop s1)
            cases e4
            cases r
            obtain ⟨v', e4, r⟩ := SR.topD (SR.pop (SR.pop s1))
            cases e4
            cases r
            exact ⟨i, j, c, szC i j c, rfl, ⟨hj.1.1.1, hj.1.1.2, hj.1.2, (Int.toNat_of_nonneg hj.2).symm⟩, q F1 H1 _ _ _ (SR.pop (SR.pop s1)) wk_rangeC⟩
    · cases e
  · cases e
theorem okC_down {i j : Int} (ha : -(2 ^ 62) ≤ i) (ha' : i < 2 ^ 62) (hb : -(2 ^ 62) ≤ j) (hb' : j < 2 ^ 62) : okC i j (-1) = true := by
  obtain ⟨c0, c1, c2, c3⟩ := RgC.neg ha ha' hb hb'
  unfold okC
  rw [c2, c3]
  simp
  omega
theorem szC_down (i j : Int) : szC i j (-1) = (i - j).toNat := by
  unfold szC
  rw [PySem.W.rangeSize_downNat, Int.toNat_natCast]
end
end Dv

set_option Elab.async false
set_option linter.all false
set_option maxRecDepth 100000
set_option maxHeartbeats 4000000
/-! Dm: lemmas about the functions of Dv, in plain Lean. -/
namespace Dv
open PySem PySem.Spec PyProof.Rows L2

/-! ### equality of data -/
theorem deq_int (i j : Int) : deq (.int i) (.int j) = decide (i = j) := by
  show (PyData.eqv (.int i) (.int j)) = _
  simp [PyData.eqv, Bool.beq_eq_decide_eq]
theorem deq_bl (i j : Bool) : deq (.bl i) (.bl j) = decide (i = j) := by
  show (PyData.eqv (.bool i) (.bool j)) = _
  cases i <;> cases j <;> rfl
theorem deq_lst (a b : List D) : deq (.lst a) (.lst b) = PyData.eqvAll (toPs a) (toPs b) := rfl
theorem deq_tup (a b : List D) : deq (.tup a) (.tup b) = PyData.eqvAll (toPs a) (toPs b) := rfl
theorem eqvAll_cons (x y : D) (a b : List D) : PyData.eqvAll (toPs (x :: a)) (toPs (y :: b)) = (deq x y && PyData.eqvAll (toPs a) (toPs b)) := rfl
theorem eqvAll_nil : PyData.eqvAll (toPs []) (toPs []) = true := rfl
theorem eqvAll_nc (y : D) (b : List D) : PyData.eqvAll (toPs []) (toPs (y :: b)) = false := rfl
theorem eqvAll_cn (y : D) (b : List D) : PyData.eqvAll (toPs (y :: b)) (toPs []) = false := rfl
theorem deq_refl (d : D) : deq d d = true := SeqAt.eqv_refl_plain _ (toP_plain d)
theorem frzs_fz (l : List D) : M.frzs (l.map .fz) = l := by
  induction l with
  | nil => rfl
  | cons d l ih => show d :: M.frzs (l.map .fz) = d :: l; rw [ih]
theorem frzs_len (l : List M) : (M.frzs l).length = l.length := by
  induction l with
  | nil => rfl
  | cons m l ih => show (M.frzs l).length + 1 = _; rw [ih]; rfl
theorem depthAll_nil : PyData.depthAll [] = 0 := rfl
theorem shal_lnil (a : D) : shal a (.lst []) = true := by
  unfold shal
  have : (toP (.lst [])).depth ≤ 60 := by decide
  simp only [decide_eq_true_eq]; omega
theorem shal_tnil (a : D) : shal a (.tup []) = true := by
  unfold shal
  have : (toP (.tup [])).depth ≤ 60 := by decide
  simp only [decide_eq_true_eq]; omega
theorem shal_int (a : D) (i : Int) : shal a (.int i) = true := by
  unfold shal
  have : (toP (.int i)).depth ≤ 60 := by show (PyData.int i).depth ≤ 60; simp [PyData.depth]
  simp only [decide_eq_true_eq]; omega
theorem shal_bl (a : D) (i : Bool) : shal a (.bl i) = true := by
  unfold shal
  have : (toP (.bl i)).depth ≤ 60 := by show (PyData.bool i).depth ≤ 60; simp [PyData.depth]
  simp only [decide_eq_true_eq]; omega
theorem deq_lnil (l : List D) : deq (.lst l) (.lst []) = l.isEmpty := by cases l <;> rfl
theorem deq_tnil (l : List D) : deq (.tup l) (.tup []) = l.isEmpty := by cases l <;> rfl
theorem frzs_isEmpty (l : List M) : (M.frzs l).isEmpty = l.isEmpty := by cases l <;> rfl
theorem sEq_e0 {a b : M} (n : Bool) (h : eqN a b = none) : sEq n a b = sEq0 n a b := by unfold sEq; rw [h]
theorem sEq_int (n : Bool) (i j : Int) : sEq n (.fz (.int i)) (.fz (.int j)) = some (.ex (.bl (if n then !decide (i = j) else decide (i = j)))) := by
  rw [sEq_e0 n rfl]
  simp only [sEq0, M.frz, nd, shal_int, if_true, deq_int, Bool.and_self]
theorem sEq_bl (n : Bool) (i j : Bool) : sEq n (.fz (.bl i)) (.fz (.bl j)) = some (.ex (.bl (if n then !decide (i = j) else decide (i = j)))) := by
  rw [sEq_e0 n rfl]
  simp only [sEq0, M.frz, nd, shal_bl, if_true, deq_bl, Bool.and_self]
theorem sEq_ol (n : Bool) (l : List M) : sEq n (.ow l) (.ow []) = some (.ex (.bl (if n then !l.isEmpty else l.isEmpty))) := rfl
theorem sEq_fl (n : Bool) (l : List D) : sEq n (.fz (.lst l)) (.ow []) = some (.ex (.bl (if n then !l.isEmpty else l.isEmpty))) := rfl
theorem sEq_tl (n : Bool) (l : List D) : sEq n (.fz (.tup l)) (.fz (.tup [])) = some (.ex (.bl (if n then !l.isEmpty else l.isEmpty))) := rfl
/-- equality of plain data of small depth -/
theorem sEq_gen (n : Bool) {a b : M} (h : eqN a b = none) (h1 : nd a.frz = true) (h2 : nd b.frz = true) (h3 : shal a.frz b.frz = true) : sEq n a b = some (.ex (.bl (if n then !deq a.frz b.frz else deq a.frz b.frz))) := by
  rw [sEq_e0 n h]
  simp only [sEq0, h1, h2, h3, if_true, Bool.and_self]
theorem nds_map {α : Type} (f : α → D) (h : ∀ x, nd (f x) = true) : ∀ l : List α, nds (l.map f) = true
  | [] => rfl
  | x :: l => by show (nd (f x) && nds (l.map f)) = true; rw [h x, nds_map f h l]; rfl
theorem nds_ints (ns : List Int) : nds (ns.map .int) = true := nds_map _ (fun _ => rfl) ns
/-! an int in a tuple or a list of ints -/
theorem depth_ints : ∀ ns : List Int, PyData.depthAll (toPs (ns.map .int)) = 0 := by
  intro ns
  induction ns with
  | nil => rfl
  | cons i ns ih =>
    show PyData.depthAll (PyData.int i :: toPs (ns.map .int)) = 0
    simp [PyData.depthAll, PyData.depth, ih]
theorem any_ints (i : Int) (ns : List Int) : (ns.map D.int).any (fun z => deq z (.int i)) = decide (i ∈ ns) := by
  induction ns with
  | nil => rfl
  | cons j ns ih =>
    simp only [List.map_cons, List.any_cons, ih, deq_int, List.mem_cons]
    by_cases h : j = i
    · subst h; simp
    · simp [h, Ne.symm h]
theorem sIn_t (n : Bool) (i : Int) (ns : List Int) : sIn n (.fz (.int i)) (.fz (.tup (ns.map .int))) = some (.ex (.bl (if n then !decide (i ∈ ns) else decide (i ∈ ns)))) := by
  unfold sIn
  simp only [seqM, seqOf, Option.bind_some, M.frz, any_ints, depth_ints, nd, nds_ints]
  rw [if_pos ⟨rfl, by omega⟩]
theorem sIn_l (n : Bool) (i : Int) (ns : List Int) : sIn n (.fz (.int i)) (.fz (.lst (ns.map .int))) = some (.ex (.bl (if n then !decide (i ∈ ns) else decide (i ∈ ns)))) := by
  unfold sIn
  simp only [seqM, seqOf, Option.bind_some, M.frz, any_ints, depth_ints, nd, nds_ints]
  rw [if_pos ⟨rfl, by omega⟩]
/-! ### items by places -/
theorem ixN_nat {n i : Nat} (h : i < n) : ixN n (i : Int) = some i := by
  unfold ixN
  rw [if_pos (by omega), if_pos (by omega)]
  simp
theorem atI_get' {α : Type} {xs : List α} {i : Nat} (h : i < xs.length) : atI xs (i : Int) = some xs[i] := atI_nat (List.getElem?_eq_getElem h)
theorem atI_mapInt (ns : List Int) {i : Nat} (h : i < ns.length) : atI (ns.map D.int) (i : Int) = some (.int ns[i]) := by
  rw [atI_get' (by simpa using h)]; simp
theorem atI_neg1 {α : Type} (xs : List α) (h : xs ≠ []) : atI xs (-1) = some (xs.getLast h) := by
  have := atI_last xs.dropLast (xs.getLast h)
  rwa [List.dropLast_concat_getLast] at this
/-! ### loops -/
/-- a comprehension over items whose turns leave the rest as it is -/
theorem comp_map {g : FG} {ft : FT} {fe : FE} {vs : List Nat} {ρ : Ev} (val : D → M) : ∀ (ds : List D) (acc : List M), (∀ d ∈ ds, ∃ ρ1 ρ2 ρ3, g (.fz d) ρ = some ρ1 ∧ ft ρ1 = some (true, ρ2) ∧ fe ρ2 = some (.vl (val d), ρ3) ∧ wipeE ρ3 vs = ρ) →
    acc.length + ds.length ≤ 100000 → fCompL g ft fe vs ds acc ρ = some (acc ++ ds.map val, ρ)
  | [], acc, _, _ => by simp [fCompL]
  | d :: ds, acc, h, hl => by
    obtain ⟨ρ1, ρ2, ρ3, h1, h2, h3, h4⟩ := h d List.mem_cons_self
    simp only [List.length_cons] at hl
    have ih := comp_map val ds (acc ++ [val d]) (fun e he => h e (List.mem_cons_of_mem _ he)) (by simp; omega)
    unfold fCompL
    simp only [h1, h2, h3, Option.bind_some, if_true]
    rw [if_pos (by omega), h4, ih]
    simp
/-- .. with a test -/
theorem comp_filter {g : FG} {ft : FT} {fe : FE} {vs : List Nat} {ρ : Ev} (p : D → Bool) (val : D → M) : ∀ (ds : List D) (acc : List M), (∀ d ∈ ds, ∃ ρ1 ρ2, g (.fz d) ρ = some ρ1 ∧ ft ρ1 = some (p d, ρ2) ∧ (p d = false → wipeE ρ2 vs = ρ) ∧ (p d = true → ∃ ρ3, fe ρ2 = some (.vl (val d), ρ3) ∧ wipeE ρ3 vs = ρ)) →
    acc.length + ds.length ≤ 100000 → fCompL g ft fe vs ds acc ρ = some (acc ++ (ds.filter p).map val, ρ)
  | [], acc, _, _ => by simp [fCompL]
  | d :: ds, acc, h, hl => by
    obtain ⟨ρ1, ρ2, h1, h2, h3, h4⟩ := h d List.mem_cons_self
    simp only [List.length_cons] at hl
    unfold fCompL
    simp only [h1, h2, Option.bind_some]
    cases hp : p d with
    | false =>
      simp only [Bool.false_eq_true, if_false, h3 hp]
      rw [comp_filter p val ds acc (fun e he => h e (List.mem_cons_of_mem _ he)) (by omega), List.filter_cons_of_neg (by simp [hp])]
    | true =>
      obtain ⟨ρ3, h5, h6⟩ := h4 hp
      simp only [if_true, h5]
      rw [if_pos (by omega), h6, comp_filter p val ds (acc ++ [val d]) (fun e he => h e (List.mem_cons_of_mem _ he)) (by simp; omega), List.filter_cons_of_pos hp]
      simp
/-- a loop that goes to its end, by a relation of its state -/
theorem loop_rel {α : Type} {g : FG} {body : FS} (R : α → Ev → Prop) (f : α → D → α) : ∀ (ds : List D) (a : α) (ρ : Ev), R a ρ → (∀ a ρ d, d ∈ ds → R a ρ → ∃ ρ1 ρ2, g (.fz d) ρ = some ρ1 ∧ (body ρ1 = some (.nx ρ2) ∨ body ρ1 = some (.ct ρ2)) ∧ R (f a d) ρ2) →
    ∃ ρ', fLoop g body ds ρ = some (.nx ρ') ∧ R (ds.foldl f a) ρ'
  | [], a, ρ, h, _ => ⟨ρ, rfl, h⟩
  | d :: ds, a, ρ, h, hs => by
    obtain ⟨ρ1, ρ2, h1, h2, h3⟩ := hs a ρ d List.mem_cons_self h
    obtain ⟨ρ', h4, h5⟩ := loop_rel R f ds (f a d) ρ2 h3 fun a ρ e he => hs a ρ e (List.mem_cons_of_mem _ he)
    refine ⟨ρ', ?_, h5⟩
    unfold fLoop
    rcases h2 with h2 | h2 <;> simp only [h1, h2, Option.bind_some, h4]
/-- a for whose turns keep a predicate -/
theorem loop_inv {g : FG} {body : FS} (I : Nat → Ev → Prop) : ∀ (ds : List D) (k : Nat) (ρ : Ev), I k ρ → (∀ i ρ d, ds[i]? = some d → I (k + i) ρ → ∃ ρ1 ρ2, g (.fz d) ρ = some ρ1 ∧ (body ρ1 = some (.nx ρ2) ∨ body ρ1 = some (.ct ρ2)) ∧ I (k + i + 1) ρ2) →
    ∃ ρ', fLoop g body ds ρ = some (.nx ρ') ∧ I (k + ds.length) ρ'
  | [], k, ρ, h, _ => ⟨ρ, rfl, h⟩
  | d :: ds, k, ρ, h, hs => by
    obtain ⟨ρ1, ρ2, h1, h2, h3⟩ := hs 0 ρ d rfl h
    obtain ⟨ρ', h4, h5⟩ := loop_inv I ds (k + 1) ρ2 h3 fun i ρ e he hi => by
      have := hs (i + 1) ρ e (by simpa using he) (by rw [show k + (i + 1) = k + 1 + i by omega]; exact hi)
      rw [show k + (i + 1) + 1 = k + 1 + i + 1 by omega] at this
      exact this
    refine ⟨ρ', ?_, by rw [show k + (d :: ds).length = k + 1 + ds.length by simp; omega]; exact h5⟩
    unfold fLoop
    rcases h2 with h2 | h2 <;> simp only [h1, h2, Option.bind_some, h4]
theorem rgD_get {lo : Int} {n i : Nat} {d : D} (h : (rgD lo n)[i]? = some d) : i < n ∧ d = .int (lo + i) := by
  have hi : i < n := by have := (List.getElem?_eq_some_iff.mp h).1; rw [rgD_len] at this; exact this
  refine ⟨hi, ?_⟩
  unfold rgD at h
  rw [List.getElem?_map, List.getElem?_range hi] at h
  exact (Option.some.inj h).symm
theorem rgD_mem {lo : Int} {n : Nat} {d : D} (h : d ∈ rgD lo n) : ∃ i : Nat, i < n ∧ d = .int (lo + i) := by
  obtain ⟨i, hi⟩ := List.getElem?_of_mem h
  exact ⟨i, rgD_get hi⟩
theorem rgD_ints (lo : Int) (n : Nat) : rgD lo n = ((List.range n).map fun i : Nat => lo + (i : Int)).map .int := by
  unfold rgD; rw [List.map_map]; rfl
/-- a while by a relation and a measure -/
theorem while_rel {c : FT} {body : FS} (I : Nat → Ev → Prop) (Q : Ev → Prop) : (∀ m ρ, I m ρ → (∃ ρ1, c ρ = some (false, ρ1) ∧ Q ρ1) ∨ (∃ ρ1 ρ2 m', c ρ = some (true, ρ1) ∧ (body ρ1 = some (.nx ρ2) ∨ body ρ1 = some (.ct ρ2)) ∧ m' < m ∧ I m' ρ2)) →
    ∀ (n m : Nat) (ρ : Ev), m < n → I m ρ → ∃ ρ', fWhile c body n ρ = some (.nx ρ') ∧ Q ρ' := by
  intro hs n
  induction n with
  | zero => intro m ρ h; omega
  | succ n ih =>
    intro m ρ h hi
    rcases hs m ρ hi with ⟨ρ1, h1, h2⟩ | ⟨ρ1, ρ2, m', h1, h2, h3, h4⟩
    · exact ⟨ρ1, by unfold fWhile; simp only [h1, Option.bind_some]; rfl, h2⟩
    · obtain ⟨ρ', h5, h6⟩ := ih m' ρ2 (by omega) h4
      refine ⟨ρ', ?_, h6⟩
      unfold fWhile
      rcases h2 with h2 | h2 <;> simp only [h1, h2, Option.bind_some, if_true, h5]
end Dv

set_option Elab.async false
set_option linter.all false
set_option maxRecDepth 100000
set_option maxHeartbeats 4000000
/-! De: the functions of Dv, step by step: equations for simp; what is not reached stands as an unapplied function. -/
namespace Dv
open PySem PySem.Spec PyProof.Rows L2
/-- what must hold -/
def gB {β : Type} (p : Prop) [Decidable p] (x : Option β) : Option β := if p then x else none
theorem gB_t {β : Type} {p : Prop} [Decidable p] (h : p) (x : Option β) : gB p x = x := if_pos h
/-- if, by a bool -/
def cB {β : Type} (b : Bool) (x y : Option β) : Option β := if b then x else y
variable {ρ : Ev} {f fa fb fc : FE} {ft fu : FT} {fs gs : FS} {fA fK : FA} {g : FG} {fl fh : FO}
theorem fC_e (d : D) : fC d ρ = some (.vl (.fz d), ρ) := rfl
def kV (i : Nat) (ρ : Ev) : Option (Option M) → Option (R × Ev)
  | some (some (.fz d)) => some (.vl (.fz d), ρ)
  | some (some (.ow l)) => some (.al i, ρ)
  | some (some (.dc ks l)) => some (.al i, ρ)
  | _ => none
theorem kV_0 (i : Nat) (ρ : Ev) (d : D) : kV i ρ (some (some (.fz d))) = some (.vl (.fz d), ρ) := rfl
theorem kV_1 (i : Nat) (ρ : Ev) (l : List M) : kV i ρ (some (some (.ow l))) = some (.al i, ρ) := rfl
theorem kV_2 (i : Nat) (ρ : Ev) (ks : List Key) (l : List D) : kV i ρ (some (some (.dc ks l))) = some (.al i, ρ) := rfl
theorem fV_e (i : Nat) : fV i ρ = kV i ρ (ρ[i]?) := rfl
def kFzA (i : Nat) (ρ : Ev) : Option (Option M) → Option (R × Ev)
  | some (some m) => some (.vl (.fz m.frz), ρ.set i (some (.fz m.frz)))
  | _ => none
theorem kFzA_0 (i : Nat) (ρ : Ev) (m : M) : kFzA i ρ (some (some m)) = some (.vl (.fz m.frz), ρ.set i (some (.fz m.frz))) := rfl
def kFz  : Option (R × Ev) → Option (R × Ev)
  | some (.vl m, ρ) => some (.vl (.fz m.frz), ρ)
  | some (.al i, ρ) => kFzA i ρ (ρ[i]?)
  | _ => none
theorem kFz_0  (m : M) (ρ : Ev) : kFz  (some (.vl m, ρ)) = some (.vl (.fz m.frz), ρ) := rfl
theorem kFz_1  (i : Nat) (ρ : Ev) : kFz  (some (.al i, ρ)) = kFzA i ρ (ρ[i]?) := rfl
theorem fFz_e : fFz f ρ = kFz (f ρ) := by
  unfold fFz kFz
  cases f ρ with
  | none => rfl
  | some a =>
    obtain ⟨r, ρ'⟩ := a
    cases r with
    | vl m => rfl
    | al i => first | (simp only [kFzA]; done) | (simp only [kFzA]; split <;> rename_i h <;> simp_all)
def kMvA (i : Nat) (ρ : Ev) : Option (Option M) → Option (R × Ev)
  | some (some m) => some (.vl m, ρ.set i none)
  | _ => none
theorem kMvA_0 (i : Nat) (ρ : Ev) (m : M) : kMvA i ρ (some (some m)) = some (.vl m, ρ.set i none) := rfl
def kMv  : Option (R × Ev) → Option (R × Ev)
  | some (.vl m, ρ) => some (.vl m, ρ)
  | some (.al i, ρ) => kMvA i ρ (ρ[i]?)
  | _ => none
theorem kMv_0  (m : M) (ρ : Ev) : kMv  (some (.vl m, ρ)) = some (.vl m, ρ) := rfl
theorem kMv_1  (i : Nat) (ρ : Ev) : kMv  (some (.al i, ρ)) = kMvA i ρ (ρ[i]?) := rfl
theorem fMv_e : fMv f ρ = kMv (f ρ) := by
  unfold fMv kMv
  cases f ρ with
  | none => rfl
  | some a =>
    obtain ⟨r, ρ'⟩ := a
    cases r with
    | vl m => rfl
    | al i => first | (simp only [kMvA]; done) | (simp only [kMvA]; split <;> rename_i h <;> simp_all)
theorem look_v (m : M) : (R.vl m).look ρ = some m := rfl
def kJ  : Option (Option M) → Option M
  | some x => x
  | _ => none
theorem kJ_0  (x : Option M) : kJ  (some x) = x := rfl
theorem look_a (i : Nat) : (R.al i).look ρ = kJ (ρ[i]?) := by
  show (ρ[i]?).join = _
  cases ρ[i]? <;> rfl
def kO (ρ : Ev) : Option O → Option (R × Ev)
  | some o => some (.vl o.m, ρ)
  | _ => none
theorem kO_0 (ρ : Ev) (o : O) : kO ρ (some o) = some (.vl o.m, ρ) := rfl
def kBin3b (sem : M → M → Option O) (ρ : Ev) (m : M) : Option M → Option (R × Ev)
  | some n => kO ρ (sem m n)
  | _ => none
theorem kBin3b_0 (sem : M → M → Option O) (ρ : Ev) (m : M) (n : M) : kBin3b sem ρ m (some n) = kO ρ (sem m n) := rfl
def kBin3 (sem : M → M → Option O) (ρ : Ev) (r : R) : Option M → Option (R × Ev)
  | some m => kBin3b sem ρ m (r.look ρ)
  | _ => none
theorem kBin3_0 (sem : M → M → Option O) (ρ : Ev) (r : R) (m : M) : kBin3 sem ρ r (some m) = kBin3b sem ρ m (r.look ρ) := rfl
def kBin2 (sem : M → M → Option O) (r : R) : Option (R × Ev) → Option (R × Ev)
  | some (s, ρ) => kBin3 sem ρ s (r.look ρ)
  | _ => none
theorem kBin2_0 (sem : M → M → Option O) (r : R) (s : R) (ρ : Ev) : kBin2 sem r (some (s, ρ)) = kBin3 sem ρ s (r.look ρ) := rfl
def kBin1 (sem : M → M → Option O) (fb : FE) : Option (R × Ev) → Option (R × Ev)
  | some (r, ρ) => kBin2 sem r (fb ρ)
  | _ => none
theorem kBin1_0 (sem : M → M → Option O) (fb : FE) (r : R) (ρ : Ev) : kBin1 sem fb (some (r, ρ)) = kBin2 sem r (fb ρ) := rfl
theorem fBin_e (sem : M → M → Option O) : fBin sem fa fb ρ = kBin1 sem fb (fa ρ) := by
  unfold fBin
  cases fa ρ with
  | none => rfl
  | some a =>
    show ((fb a.2).bind fun b => _) = kBin2 sem a.1 (fb a.2)
    cases fb a.2 with
    | none => rfl
    | some b =>
      show ((a.1.look b.2).bind fun m => _) = kBin3 sem b.2 b.1 (a.1.look b.2)
      cases a.1.look b.2 with
      | none => rfl
      | some m =>
        show ((b.1.look b.2).bind fun n => _) = kBin3b sem b.2 m (b.1.look b.2)
        cases b.1.look b.2 with
        | none => rfl
        | some n => show (sem m n).map _ = kO b.2 (sem m n); cases sem m n <;> rfl
def kTst  : Option (R × Ev) → Option (Bool × Ev)
  | some (.vl (.fz (.bl b)), ρ) => some (b, ρ)
  | _ => none
theorem kTst_0  (b : Bool) (ρ : Ev) : kTst  (some (.vl (.fz (.bl b)), ρ)) = some (b, ρ) := rfl
theorem fTst_e : fTst f ρ = kTst (f ρ) := rfl
def kCons2 (r : R) : Option (List R × Ev) → Option (List R × Ev)
  | some (rs, ρ) => some (r :: rs, ρ)
  | _ => none
theorem kCons2_0 (r : R) (rs : List R) (ρ : Ev) : kCons2 r (some (rs, ρ)) = some (r :: rs, ρ) := rfl
def kCons1 (fA : FA) : Option (R × Ev) → Option (List R × Ev)
  | some (r, ρ) => kCons2 r (fA ρ)
  | _ => none
theorem kCons1_0 (fA : FA) (r : R) (ρ : Ev) : kCons1 fA (some (r, ρ)) = kCons2 r (fA ρ) := rfl
theorem fCons_e : fCons fa fA ρ = kCons1 fA (fa ρ) := by
  unfold fCons
  cases fa ρ with
  | none => rfl
  | some a => show ((fA a.2).bind fun b => _) = kCons2 a.1 (fA a.2); cases fA a.2 <;> rfl
theorem fNil_e : fNil ρ = some ([], ρ) := rfl
def kLooks2 (m : M) : Option (List M) → Option (List M)
  | some ms => some (m :: ms)
  | _ => none
theorem kLooks2_0 (m : M) (ms : List M) : kLooks2 m (some ms) = some (m :: ms) := rfl
def kLooks (ρ : Ev) (rs : List R) : Option M → Option (List M)
  | some m => kLooks2 m (looks ρ rs)
  | _ => none
theorem kLooks_0 (ρ : Ev) (rs : List R) (m : M) : kLooks ρ rs (some m) = kLooks2 m (looks ρ rs) := rfl
theorem looks_n : looks ρ [] = some [] := rfl
theorem looks_c (r : R) (rs : List R) : looks ρ (r :: rs) = kLooks ρ rs (r.look ρ) := by
  show ((r.look ρ).bind fun m => _) = _
  cases r.look ρ with
  | none => rfl
  | some m => show (looks ρ rs).map _ = kLooks2 m (looks ρ rs); cases looks ρ rs <;> rfl
def kCall2 (sem : List M → Option O) (ρ : Ev) : Option (List M) → Option (R × Ev)
  | some ms => kO ρ (sem ms)
  | _ => none
theorem kCall2_0 (sem : List M → Option O) (ρ : Ev) (ms : List M) : kCall2 sem ρ (some ms) = kO ρ (sem ms) := rfl
def kCall1 (sem : List M → Option O) : Option (List R × Ev) → Option (R × Ev)
  | some (rs, ρ) => kCall2 sem ρ (looks ρ rs)
  | _ => none
theorem kCall1_0 (sem : List M → Option O) (rs : List R) (ρ : Ev) : kCall1 sem (some (rs, ρ)) = kCall2 sem ρ (looks ρ rs) := rfl
theorem fCall_e (sem : List M → Option O) : fCall sem fA ρ = kCall1 sem (fA ρ) := by
  unfold fCall
  cases fA ρ with
  | none => rfl
  | some a =>
    show ((looks a.2 a.1).bind fun ms => _) = kCall2 sem a.2 (looks a.2 a.1)
    cases looks a.2 a.1 with
    | none => rfl
    | some ms => show (sem ms).map _ = kO a.2 (sem ms); cases sem ms <;> rfl
def kAf (d : D) : Option (List D) → Option (List D)
  | some ds => some (d :: ds)
  | _ => none
theorem kAf_0 (d : D) (ds : List D) : kAf d (some ds) = some (d :: ds) := rfl
theorem allFz_n : allFz [] = some [] := rfl
theorem allFz_c (d : D) (rs : List R) : allFz (.vl (.fz d) :: rs) = kAf d (allFz rs) := by
  show (allFz rs).map _ = _; cases allFz rs <;> rfl
def kOwn (m : M) : Option (List M) → Option (List M)
  | some ds => some (m :: ds)
  | _ => none
theorem kOwn_0 (m : M) (ds : List M) : kOwn m (some ds) = some (m :: ds) := rfl
theorem owns_n : owns [] = some [] := rfl
theorem owns_c (m : M) (rs : List R) : owns (.vl m :: rs) = kOwn m (owns rs) := by
  show (owns rs).map _ = _; cases owns rs <;> rfl
def kTup2 (ρ : Ev) : Option (List D) → Option (R × Ev)
  | some ds => gB (ds.length ≤ 1000) (some (.vl (.fz (.tup ds)), ρ))
  | _ => none
theorem kTup2_0 (ρ : Ev) (ds : List D) : kTup2 ρ (some ds) = gB (ds.length ≤ 1000) (some (.vl (.fz (.tup ds)), ρ)) := rfl
def kTup  : Option (List R × Ev) → Option (R × Ev)
  | some (rs, ρ) => kTup2 ρ (allFz rs)
  | _ => none
theorem kTup_0  (rs : List R) (ρ : Ev) : kTup  (some (rs, ρ)) = kTup2 ρ (allFz rs) := rfl
theorem fTup_e : fTup fA ρ = kTup (fA ρ) := by
  unfold fTup
  cases fA ρ with
  | none => rfl
  | some a => show ((allFz a.1).bind fun ms => _) = kTup2 a.2 (allFz a.1); cases allFz a.1 <;> rfl
def kLst2 (ρ : Ev) : Option (List M) → Option (R × Ev)
  | some ds => gB (ds.length ≤ 1000) (some (.vl (.ow ds), ρ))
  | _ => none
theorem kLst2_0 (ρ : Ev) (ds : List M) : kLst2 ρ (some ds) = gB (ds.length ≤ 1000) (some (.vl (.ow ds), ρ)) := rfl
def kLst  : Option (List R × Ev) → Option (R × Ev)
  | some (rs, ρ) => kLst2 ρ (owns rs)
  | _ => none
theorem kLst_0  (rs : List R) (ρ : Ev) : kLst  (some (rs, ρ)) = kLst2 ρ (owns rs) := rfl
theorem fLst_e : fLst fA ρ = kLst (fA ρ) := by
  unfold fLst
  cases fA ρ with
  | none => rfl
  | some a => show ((owns a.1).bind fun ms => _) = kLst2 a.2 (owns a.1); cases owns a.1 <;> rfl
def kAnd (fu : FT) : Option (Bool × Ev) → Option (Bool × Ev)
  | some (true, ρ) => fu ρ
  | some (false, ρ) => some (false, ρ)
  | _ => none
theorem kAnd_0 (fu : FT) (ρ : Ev) : kAnd fu (some (true, ρ)) = fu ρ := rfl
theorem kAnd_1 (fu : FT) (ρ : Ev) : kAnd fu (some (false, ρ)) = some (false, ρ) := rfl
def kOr (fu : FT) : Option (Bool × Ev) → Option (Bool × Ev)
  | some (true, ρ) => some (true, ρ)
  | some (false, ρ) => fu ρ
  | _ => none
theorem kOr_0 (fu : FT) (ρ : Ev) : kOr fu (some (true, ρ)) = some (true, ρ) := rfl
theorem kOr_1 (fu : FT) (ρ : Ev) : kOr fu (some (false, ρ)) = fu ρ := rfl
def kNot  : Option (Bool × Ev) → Option (Bool × Ev)
  | some (b, ρ) => some (!b, ρ)
  | _ => none
theorem kNot_0  (b : Bool) (ρ : Ev) : kNot  (some (b, ρ)) = some (!b, ρ) := rfl
theorem fAnd_e : fAnd ft fu ρ = kAnd fu (ft ρ) := by
  unfold fAnd
  cases ft ρ with
  | none => rfl
  | some a => obtain ⟨b, ρ'⟩ := a; cases b <;> rfl
theorem fOr_e : fOr ft fu ρ = kOr fu (ft ρ) := by
  unfold fOr
  cases ft ρ with
  | none => rfl
  | some a => obtain ⟨b, ρ'⟩ := a; cases b <;> rfl
theorem fNot_e : fNot ft ρ = kNot (ft ρ) := by
  unfold fNot
  cases ft ρ with
  | none => rfl
  | some a => obtain ⟨b, ρ'⟩ := a; cases b <;> rfl
def kTru3 (ρ : Ev) : Option Bool → Option (Bool × Ev)
  | some b => some (b, ρ)
  | _ => none
theorem kTru3_0 (ρ : Ev) (b : Bool) : kTru3 ρ (some b) = some (b, ρ) := rfl
def kTru2 (ρ : Ev) : Option M → Option (Bool × Ev)
  | some m => kTru3 ρ (tru m)
  | _ => none
theorem kTru2_0 (ρ : Ev) (m : M) : kTru2 ρ (some m) = kTru3 ρ (tru m) := rfl
def kTru  : Option (R × Ev) → Option (Bool × Ev)
  | some (r, ρ) => kTru2 ρ (r.look ρ)
  | _ => none
theorem kTru_0  (r : R) (ρ : Ev) : kTru  (some (r, ρ)) = kTru2 ρ (r.look ρ) := rfl
theorem fTru_e : fTru f ρ = kTru (f ρ) := by
  unfold fTru
  cases f ρ with
  | none => rfl
  | some a =>
    show ((a.1.look a.2).bind fun m => _) = kTru2 a.2 (a.1.look a.2)
    cases a.1.look a.2 with
    | none => rfl
    | some m => show (tru m).map _ = kTru3 a.2 (tru m); cases tru m <;> rfl
def kAndV (fb : FE) : Option (R × Ev) → Option (R × Ev)
  | some (.vl (.fz (.bl true)), ρ) => fb ρ
  | some (.vl (.fz (.bl false)), ρ) => some (.vl (.fz (.bl false)), ρ)
  | _ => none
theorem kAndV_0 (fb : FE) (ρ : Ev) : kAndV fb (some (.vl (.fz (.bl true)), ρ)) = fb ρ := rfl
theorem kAndV_1 (fb : FE) (ρ : Ev) : kAndV fb (some (.vl (.fz (.bl false)), ρ)) = some (.vl (.fz (.bl false)), ρ) := rfl
def kOrV (fb : FE) : Option (R × Ev) → Option (R × Ev)
  | some (.vl (.fz (.bl true)), ρ) => some (.vl (.fz (.bl true)), ρ)
  | some (.vl (.fz (.bl false)), ρ) => fb ρ
  | _ => none
theorem kOrV_0 (fb : FE) (ρ : Ev) : kOrV fb (some (.vl (.fz (.bl true)), ρ)) = some (.vl (.fz (.bl true)), ρ) := rfl
theorem kOrV_1 (fb : FE) (ρ : Ev) : kOrV fb (some (.vl (.fz (.bl false)), ρ)) = fb ρ := rfl
def kNotV  : Option (R × Ev) → Option (R × Ev)
  | some (.vl (.fz (.bl b)), ρ) => some (.vl (.fz (.bl (!b))), ρ)
  | _ => none
theorem kNotV_0  (b : Bool) (ρ : Ev) : kNotV  (some (.vl (.fz (.bl b)), ρ)) = some (.vl (.fz (.bl (!b))), ρ) := rfl
theorem fAndV_e : fAndV fa fb ρ = kAndV fb (fa ρ) := rfl
theorem fOrV_e : fOrV fa fb ρ = kOrV fb (fa ρ) := by
  unfold fOrV kOrV
  split <;> simp_all
theorem fNotV_e : fNotV fa ρ = kNotV (fa ρ) := rfl
def kIfE (fa fb : FE) : Option (Bool × Ev) → Option (R × Ev)
  | some (true, ρ) => fa ρ
  | some (false, ρ) => fb ρ
  | _ => none
theorem kIfE_0 (fa fb : FE) (ρ : Ev) : kIfE fa fb (some (true, ρ)) = fa ρ := rfl
theorem kIfE_1 (fa fb : FE) (ρ : Ev) : kIfE fa fb (some (false, ρ)) = fb ρ := rfl
theorem fIf_e : fIf ft fa fb ρ = kIfE fa fb (ft ρ) := by
  unfold fIf
  cases ft ρ with
  | none => rfl
  | some a => obtain ⟨b, ρ'⟩ := a; cases b <;> rfl
def kSeq (gs : FS) : Option Out → Option Out
  | some (.nx ρ) => gs ρ
  | some (.rt m ρ) => some (.rt m ρ)
  | some (.bk ρ) => some (.bk ρ)
  | some (.ct ρ) => some (.ct ρ)
  | _ => none
theorem kSeq_0 (gs : FS) (ρ : Ev) : kSeq gs (some (.nx ρ)) = gs ρ := rfl
theorem kSeq_1 (gs : FS) (m : M) (ρ : Ev) : kSeq gs (some (.rt m ρ)) = some (.rt m ρ) := rfl
theorem kSeq_2 (gs : FS) (ρ : Ev) : kSeq gs (some (.bk ρ)) = some (.bk ρ) := rfl
theorem kSeq_3 (gs : FS) (ρ : Ev) : kSeq gs (some (.ct ρ)) = some (.ct ρ) := rfl
theorem fSeq_e : fSeq fs gs ρ = kSeq gs (fs ρ) := by
  unfold fSeq
  cases fs ρ with
  | none => rfl
  | some o => cases o <;> rfl
theorem fPass_e : fPass ρ = some (.nx ρ) := rfl
theorem fRetN_e : fRetN ρ = some (.rt (.fz .non) ρ) := rfl
theorem fBreak_e : fBreak ρ = some (.bk ρ) := rfl
theorem fCont_e : fCont ρ = some (.ct ρ) := rfl
def kExpr  : Option (R × Ev) → Option Out
  | some (r, ρ) => some (.nx ρ)
  | _ => none
theorem kExpr_0  (r : R) (ρ : Ev) : kExpr  (some (r, ρ)) = some (.nx ρ) := rfl
theorem fExpr_e : fExpr f ρ = kExpr (f ρ) := by
  unfold fExpr; cases f ρ <;> rfl
def kRet  : Option (R × Ev) → Option Out
  | some (.vl m, ρ) => some (.rt m ρ)
  | _ => none
theorem kRet_0  (m : M) (ρ : Ev) : kRet  (some (.vl m, ρ)) = some (.rt m ρ) := rfl
theorem fRet_e : fRet f ρ = kRet (f ρ) := rfl
def kIf (fs gs : FS) : Option (Bool × Ev) → Option Out
  | some (true, ρ) => fs ρ
  | some (false, ρ) => gs ρ
  | _ => none
theorem kIf_0 (fs gs : FS) (ρ : Ev) : kIf fs gs (some (true, ρ)) = fs ρ := rfl
theorem kIf_1 (fs gs : FS) (ρ : Ev) : kIf fs gs (some (false, ρ)) = gs ρ := rfl
theorem fIfS_e : fIfS ft fs gs ρ = kIf fs gs (ft ρ) := by
  unfold fIfS
  cases ft ρ with
  | none => rfl
  | some a => obtain ⟨b, ρ'⟩ := a; cases b <;> rfl
def kNx  : Option Ev → Option Out
  | some ρ => some (.nx ρ)
  | _ => none
theorem kNx_0  (ρ : Ev) : kNx  (some ρ) = some (.nx ρ) := rfl
def kAsg (g : FG) : Option (R × Ev) → Option Out
  | some (.vl m, ρ) => kNx (g m ρ)
  | _ => none
theorem kAsg_0 (g : FG) (m : M) (ρ : Ev) : kAsg g (some (.vl m, ρ)) = kNx (g m ρ) := rfl
theorem fAsg_e : fAsg f g ρ = kAsg g (f ρ) := by
  unfold fAsg
  cases f ρ with
  | none => rfl
  | some a =>
    obtain ⟨r, ρ'⟩ := a
    cases r with
    | al i => rfl
    | vl m => show (g m ρ').map _ = kNx (g m ρ'); cases g m ρ' <;> rfl
theorem gN_e (C : Nat → Bool) (i : Nat) (m : M) : gN C i m ρ = gB (i < ρ.length ∧ C i = false) (some (ρ.set i (some m))) := rfl
def kPar (C : Nat → Bool) (i j : Nat) : Option (List R × Ev) → Option Out
  | some ([.vl m, .vl m'], ρ) => gB (i < ρ.length ∧ j < ρ.length ∧ C i = false ∧ C j = false) (some (.nx ((ρ.set i (some m)).set j (some m'))))
  | _ => none
theorem kPar_0 (C : Nat → Bool) (i j : Nat) (m m' : M) (ρ : Ev) : kPar C i j (some ([.vl m, .vl m'], ρ)) = gB (i < ρ.length ∧ j < ρ.length ∧ C i = false ∧ C j = false) (some (.nx ((ρ.set i (some m)).set j (some m')))) := rfl
theorem gPar_e (C : Nat → Bool) (i j : Nat) : gPar C i j fA ρ = kPar C i j (fA ρ) := rfl
def kPar3 (C : Nat → Bool) (i j l : Nat) : Option (List R × Ev) → Option Out
  | some ([.vl m, .vl m', .vl m''], ρ) => gB ((i < ρ.length ∧ j < ρ.length ∧ l < ρ.length) ∧ C i = false ∧ C j = false ∧ C l = false) (some (.nx (((ρ.set i (some m)).set j (some m')).set l (some m''))))
  | _ => none
theorem kPar3_0 (C : Nat → Bool) (i j l : Nat) (m m' m'' : M) (ρ : Ev) : kPar3 C i j l (some ([.vl m, .vl m', .vl m''], ρ)) = gB ((i < ρ.length ∧ j < ρ.length ∧ l < ρ.length) ∧ C i = false ∧ C j = false ∧ C l = false) (some (.nx (((ρ.set i (some m)).set j (some m')).set l (some m'')))) := rfl
theorem gPar3_e (C : Nat → Bool) (i j l : Nat) : gPar3 C i j l fA ρ = kPar3 C i j l (fA ρ) := rfl
theorem gTupl_e (n : Nat) (gs : FGs) (ds : List D) : gTupl n gs (.fz (.tup ds)) ρ = gB (ds.length = n) (gs ds ρ) := rfl
theorem gsNil_e : gsNil [] ρ = some ρ := rfl
def kGs (gs : FGs) (r : List D) : Option Ev → Option Ev
  | some ρ => gs r ρ
  | _ => none
theorem kGs_0 (gs : FGs) (r : List D) (ρ : Ev) : kGs gs r (some ρ) = gs r ρ := rfl
theorem gsCons_e (g : FG) (gs : FGs) (d : D) (r : List D) : gsCons g gs (d :: r) ρ = kGs gs r (g (.fz d) ρ) := by
  show ((g (.fz d) ρ).bind fun ρ1 => _) = _; cases g (.fz d) ρ <;> rfl
theorem gmNil_e : gmNil [] ρ = some ρ := rfl
def kGm (gs : FGm) (r : List M) : Option Ev → Option Ev
  | some ρ => gs r ρ
  | _ => none
theorem kGm_0 (gs : FGm) (r : List M) (ρ : Ev) : kGm gs r (some ρ) = gs r ρ := rfl
theorem gmCons_e (g : FG) (gs : FGm) (d : M) (r : List M) : gmCons g gs (d :: r) ρ = kGm gs r (g d ρ) := by
  show ((g d ρ).bind fun ρ1 => _) = _; cases g d ρ <;> rfl
def kUnp2 (n : Nat) (gs : FGm) (ρ : Ev) : Option (List M) → Option Out
  | some ms => gB (ms.length = n ∧ n ≤ 1000) (kNx (gs ms ρ))
  | _ => none
theorem kUnp2_0 (n : Nat) (gs : FGm) (ρ : Ev) (ms : List M) : kUnp2 n gs ρ (some ms) = gB (ms.length = n ∧ n ≤ 1000) (kNx (gs ms ρ)) := rfl
def kUnp (n : Nat) (gs : FGm) : Option (List R × Ev) → Option Out
  | some (rs, ρ) => kUnp2 n gs ρ (owns rs)
  | _ => none
theorem kUnp_0 (n : Nat) (gs : FGm) (rs : List R) (ρ : Ev) : kUnp n gs (some (rs, ρ)) = kUnp2 n gs ρ (owns rs) := rfl
theorem fUnp_e (n : Nat) (gs : FGm) : fUnp n fA gs ρ = kUnp n gs (fA ρ) := by
  unfold fUnp
  cases fA ρ with
  | none => rfl
  | some a =>
    show ((owns a.1).bind fun ms => _) = kUnp2 n gs a.2 (owns a.1)
    cases owns a.1 with
    | none => rfl
    | some ms => show (if _ then (gs ms a.2).map _ else none) = gB _ (kNx (gs ms a.2)); unfold gB; cases gs ms a.2 <;> rfl
def kSet4 (m : M) (i : Nat) (ρ : Ev) (ms : List M) : Option Nat → Option Ev
  | some j => some (ρ.set i (some (.ow (ms.set j m))))
  | _ => none
theorem kSet4_0 (m : M) (i : Nat) (ρ : Ev) (ms : List M) (j : Nat) : kSet4 m i ρ ms (some j) = some (ρ.set i (some (.ow (ms.set j m)))) := rfl
def kSet3 (m : M) (i : Nat) (ρ : Ev) (k : Int) : Option (Option M) → Option Ev
  | some (some (.ow ms)) => kSet4 m i ρ ms (ixN ms.length k)
  | _ => none
theorem kSet3_0 (m : M) (i : Nat) (ρ : Ev) (k : Int) (ms : List M) : kSet3 m i ρ k (some (some (.ow ms))) = kSet4 m i ρ ms (ixN ms.length k) := rfl
def kSet2 (m : M) (i : Nat) : Option (R × Ev) → Option Ev
  | some (.vl (.fz (.int k)), ρ) => kSet3 m i ρ k (ρ[i]?)
  | _ => none
theorem kSet2_0 (m : M) (i : Nat) (k : Int) (ρ : Ev) : kSet2 m i (some (.vl (.fz (.int k)), ρ)) = kSet3 m i ρ k (ρ[i]?) := rfl
def kSet1 (fb : FE) (m : M) : Option (R × Ev) → Option Ev
  | some (.al i, ρ) => kSet2 m i (fb ρ)
  | _ => none
theorem kSet1_0 (fb : FE) (m : M) (i : Nat) (ρ : Ev) : kSet1 fb m (some (.al i, ρ)) = kSet2 m i (fb ρ) := rfl
theorem gSet_e (m : M) : gSet fa fb m ρ = kSet1 fb m (fa ρ) := by
  unfold gSet
  split
  · rename_i i ρ1 h
    rw [h]; show _ = kSet2 m i (fb ρ1)
    split
    · rename_i k ρ2 h2
      rw [h2]; show _ = kSet3 m i ρ2 k (ρ2[i]?)
      split
      · rename_i ms h3; rw [h3]; show (ixN ms.length k).map _ = kSet4 m i ρ2 ms (ixN ms.length k); cases ixN ms.length k <;> rfl
      · unfold kSet3; split <;> simp_all
    · unfold kSet2; split <;> simp_all
  · unfold kSet1; split <;> simp_all
def kIsO  : Option (Option M) → Option Bool
  | some (some (.ow l)) => some true
  | _ => none
theorem kIsO_0  (l : List M) : kIsO  (some (some (.ow l))) = some true := rfl
def kMt6 (i : Nat) (ρ : Ev) : Option (List M × M) → Option (R × Ev)
  | some (ms, m) => some (.vl m, ρ.set i (some (.ow ms)))
  | _ => none
theorem kMt6_0 (i : Nat) (ρ : Ev) (ms : List M) (m : M) : kMt6 i ρ (some (ms, m)) = some (.vl m, ρ.set i (some (.ow ms))) := rfl
def kMt5 (sem : List M → List M → Option (List M × M)) (i : Nat) (ρ : Ev) (as : List M) : Option (Option M) → Option (R × Ev)
  | some (some (.ow ms)) => kMt6 i ρ (sem ms as)
  | _ => none
theorem kMt5_0 (sem : List M → List M → Option (List M × M)) (i : Nat) (ρ : Ev) (as : List M) (ms : List M) : kMt5 sem i ρ as (some (some (.ow ms))) = kMt6 i ρ (sem ms as) := rfl
def kMt4 (sem : List M → List M → Option (List M × M)) (i : Nat) (ρ : Ev) : Option (List M) → Option (R × Ev)
  | some as => kMt5 sem i ρ as (ρ[i]?)
  | _ => none
theorem kMt4_0 (sem : List M → List M → Option (List M × M)) (i : Nat) (ρ : Ev) (as : List M) : kMt4 sem i ρ (some as) = kMt5 sem i ρ as (ρ[i]?) := rfl
def kMt3 (sem : List M → List M → Option (List M × M)) (i : Nat) : Option (List R × Ev) → Option (R × Ev)
  | some (rs, ρ) => kMt4 sem i ρ (owns rs)
  | _ => none
theorem kMt3_0 (sem : List M → List M → Option (List M × M)) (i : Nat) (rs : List R) (ρ : Ev) : kMt3 sem i (some (rs, ρ)) = kMt4 sem i ρ (owns rs) := rfl
def kMt2 (sem : List M → List M → Option (List M × M)) (fA : FA) (i : Nat) (ρ : Ev) : Option (Option M) → Option (R × Ev)
  | some (some (.ow l)) => kMt3 sem i (fA ρ)
  | _ => none
theorem kMt2_0 (sem : List M → List M → Option (List M × M)) (fA : FA) (i : Nat) (ρ : Ev) (l : List M) : kMt2 sem fA i ρ (some (some (.ow l))) = kMt3 sem i (fA ρ) := rfl
def kMt1 (sem : List M → List M → Option (List M × M)) (fA : FA) : Option (R × Ev) → Option (R × Ev)
  | some (.al i, ρ) => kMt2 sem fA i ρ (ρ[i]?)
  | _ => none
theorem kMt1_0 (sem : List M → List M → Option (List M × M)) (fA : FA) (i : Nat) (ρ : Ev) : kMt1 sem fA (some (.al i, ρ)) = kMt2 sem fA i ρ (ρ[i]?) := rfl
theorem fMt_e (sem : List M → List M → Option (List M × M)) : fMt sem fa fA ρ = kMt1 sem fA (fa ρ) := by
  unfold fMt
  split
  · rename_i i ρ1 h
    rw [h]; show _ = kMt2 sem fA i ρ1 (ρ1[i]?)
    unfold isOw
    split
    · rename_i l h1
      · rw [h1]; show _ = kMt3 sem i (fA ρ1)
        simp only [if_true]
        cases fA ρ1 with
        | none => rfl
        | some a =>
          show ((owns a.1).bind fun as => _) = kMt4 sem i a.2 (owns a.1)
          cases owns a.1 with
          | none => rfl
          | some as =>
            show _ = kMt5 sem i a.2 as (a.2[i]?)
            simp only [Option.bind_some]
            split
            · rename_i ms h3; rw [h3]; show (sem ms as).map _ = kMt6 i a.2 (sem ms as); cases sem ms as <;> rfl
            · unfold kMt5; split <;> simp_all
    · unfold kMt2; split <;> simp_all
  · unfold kMt1; split <;> simp_all
def kCF3 (rs : List R) (ρ : Ev) : Option (M × List (Option M)) → Option (R × Ev)
  | some (m, os) => some (.vl m, back rs os ρ)
  | _ => none
theorem kCF3_0 (rs : List R) (ρ : Ev) (m : M) (os : List (Option M)) : kCF3 rs ρ (some (m, os)) = some (.vl m, back rs os ρ) := rfl
def kCF2 (g : FF) (rs : List R) : Option (List M × Ev) → Option (R × Ev)
  | some (ms, ρ) => kCF3 rs ρ (g ms)
  | _ => none
theorem kCF2_0 (g : FF) (rs : List R) (ms : List M) (ρ : Ev) : kCF2 g rs (some (ms, ρ)) = kCF3 rs ρ (g ms) := rfl
def kCF1 (g : FF) : Option (List R × Ev) → Option (R × Ev)
  | some (rs, ρ) => kCF2 g rs (lend rs ρ)
  | _ => none
theorem kCF1_0 (g : FF) (rs : List R) (ρ : Ev) : kCF1 g (some (rs, ρ)) = kCF2 g rs (lend rs ρ) := rfl
theorem fCallF_e (g : FF) : fCallF g fA ρ = kCF1 g (fA ρ) := by
  unfold fCallF
  cases fA ρ with
  | none => rfl
  | some a =>
    show ((lend a.1 a.2).bind fun l => _) = kCF2 g a.1 (lend a.1 a.2)
    cases lend a.1 a.2 with
    | none => rfl
    | some l => show (g l.1).map _ = kCF3 a.1 l.2 (g l.1); cases g l.1 <;> rfl
def kLd (m : M) : Option (List M × Ev) → Option (List M × Ev)
  | some (ms, ρ) => some (m :: ms, ρ)
  | _ => none
theorem kLd_0 (m : M) (ms : List M) (ρ : Ev) : kLd m (some (ms, ρ)) = some (m :: ms, ρ) := rfl
def kLdA (i : Nat) (rs : List R) (ρ : Ev) : Option (Option M) → Option (List M × Ev)
  | some (some m) => kLd m (lend rs (ρ.set i none))
  | _ => none
theorem kLdA_0 (i : Nat) (rs : List R) (ρ : Ev) (m : M) : kLdA i rs ρ (some (some m)) = kLd m (lend rs (ρ.set i none)) := rfl
theorem lend_n : lend [] ρ = some ([], ρ) := rfl
theorem lend_v (m : M) (rs : List R) : lend (.vl m :: rs) ρ = kLd m (lend rs ρ) := by
  show (lend rs ρ).map _ = _; cases lend rs ρ <;> rfl
theorem lend_a (i : Nat) (rs : List R) : lend (.al i :: rs) ρ = kLdA i rs ρ (ρ[i]?) := by
  show (match ρ[i]? with | some (some m) => _ | _ => _) = _
  split
  · rename_i m h; rw [h]; show (lend rs (ρ.set i none)).map _ = kLd m (lend rs (ρ.set i none)); cases lend rs (ρ.set i none) <;> rfl
  · unfold kLdA; split <;> simp_all
theorem back_n (os : List (Option M)) : back [] os ρ = ρ := rfl
theorem back_v (m : M) (rs : List R) (o : Option M) (os : List (Option M)) : back (.vl m :: rs) (o :: os) ρ = back rs os ρ := rfl
theorem back_a (i : Nat) (rs : List R) (o : Option M) (os : List (Option M)) : back (.al i :: rs) (o :: os) ρ = back rs os (ρ.set i o) := rfl
def kPk2 (m : M) : Option (List M) → Option (List M)
  | some ms => some (m :: ms)
  | _ => none
theorem kPk2_0 (m : M) (ms : List M) : kPk2 m (some ms) = some (m :: ms) := rfl
def kPk (ms : List (Option M)) (i : Nat) (π : List Nat) : Option (Option M) → Option (List M)
  | some (some m) => kPk2 m (pick (ms.set i none) π)
  | _ => none
theorem kPk_0 (ms : List (Option M)) (i : Nat) (π : List Nat) (m : M) : kPk ms i π (some (some m)) = kPk2 m (pick (ms.set i none) π) := rfl
theorem pick_n (ms : List (Option M)) : pick ms [] = some [] := rfl
theorem pick_c (ms : List (Option M)) (i : Nat) (π : List Nat) : pick ms (i :: π) = kPk ms i π (ms[i]?) := by
  show (match ms[i]? with | some (some m) => _ | _ => _) = _
  split
  · rename_i m h; rw [h]; show (pick (ms.set i none) π).map _ = kPk2 m (pick (ms.set i none) π); cases pick (ms.set i none) π <;> rfl
  · unfold kPk; split <;> simp_all
def kCK5 (ρ : Ev) : Option (M × List (Option M)) → Option (R × Ev)
  | some (m, os) => some (.vl m, ρ)
  | _ => none
theorem kCK5_0 (ρ : Ev) (m : M) (os : List (Option M)) : kCK5 ρ (some (m, os)) = some (.vl m, ρ) := rfl
def kCK4 (g : FF) (ρ : Ev) : Option (List M) → Option (R × Ev)
  | some ps => kCK5 ρ (g ps)
  | _ => none
theorem kCK4_0 (g : FF) (ρ : Ev) (ps : List M) : kCK4 g ρ (some ps) = kCK5 ρ (g ps) := rfl
def kCK3 (π : List Nat) (g : FF) (ρ : Ev) : Option (List M) → Option (R × Ev)
  | some ms => kCK4 g ρ (pick (ms.map some) π)
  | _ => none
theorem kCK3_0 (π : List Nat) (g : FF) (ρ : Ev) (ms : List M) : kCK3 π g ρ (some ms) = kCK4 g ρ (pick (ms.map some) π) := rfl
def kCK2 (n m : Nat) (π : List Nat) (g : FF) (rs : List R) : Option (List R × Ev) → Option (R × Ev)
  | some (ss, ρ) => gB (rs.length = n ∧ ss.length = m) (kCK3 π g ρ (owns (rs ++ ss)))
  | _ => none
theorem kCK2_0 (n m : Nat) (π : List Nat) (g : FF) (rs : List R) (ss : List R) (ρ : Ev) : kCK2 n m π g rs (some (ss, ρ)) = gB (rs.length = n ∧ ss.length = m) (kCK3 π g ρ (owns (rs ++ ss))) := rfl
def kCK1 (n m : Nat) (π : List Nat) (g : FF) (fK : FA) : Option (List R × Ev) → Option (R × Ev)
  | some (rs, ρ) => kCK2 n m π g rs (fK ρ)
  | _ => none
theorem kCK1_0 (n m : Nat) (π : List Nat) (g : FF) (fK : FA) (rs : List R) (ρ : Ev) : kCK1 n m π g fK (some (rs, ρ)) = kCK2 n m π g rs (fK ρ) := rfl
theorem fCallK_e (n m : Nat) (π : List Nat) (g : FF) : fCallK n m π g fA fK ρ = kCK1 n m π g fK (fA ρ) := by
  unfold fCallK
  cases fA ρ with
  | none => rfl
  | some a =>
    show ((fK a.2).bind fun b => _) = kCK2 n m π g a.1 (fK a.2)
    cases fK a.2 with
    | none => rfl
    | some b =>
      show (if _ then _ else none) = gB _ (kCK3 π g b.2 (owns (a.1 ++ b.1)))
      unfold gB
      split
      · cases owns (a.1 ++ b.1) with
        | none => rfl
        | some ms =>
          show ((pick (ms.map some) π).bind fun ps => _) = kCK4 g b.2 (pick (ms.map some) π)
          cases pick (ms.map some) π with
          | none => rfl
          | some ps => show (g ps).map _ = kCK5 b.2 (g ps); cases g ps <;> rfl
      · rfl
def kCh4 (s' : M → M → Option O) (r2 : R) : Option (R × Ev) → Option (R × Ev)
  | some (r3, ρ) => kBin3 s' ρ r3 (r2.look ρ)
  | _ => none
theorem kCh4_0 (s' : M → M → Option O) (r2 : R) (r3 : R) (ρ : Ev) : kCh4 s' r2 (some (r3, ρ)) = kBin3 s' ρ r3 (r2.look ρ) := rfl
def kCh3 (s' : M → M → Option O) (r2 : R) (fc : FE) : Option (R × Ev) → Option (R × Ev)
  | some (.vl (.fz (.bl true)), ρ) => kCh4 s' r2 (fc ρ)
  | some (.vl (.fz (.bl false)), ρ) => some (.vl (.fz (.bl false)), ρ)
  | _ => none
theorem kCh3_0 (s' : M → M → Option O) (r2 : R) (fc : FE) (ρ : Ev) : kCh3 s' r2 fc (some (.vl (.fz (.bl true)), ρ)) = kCh4 s' r2 (fc ρ) := rfl
theorem kCh3_1 (s' : M → M → Option O) (r2 : R) (fc : FE) (ρ : Ev) : kCh3 s' r2 fc (some (.vl (.fz (.bl false)), ρ)) = some (.vl (.fz (.bl false)), ρ) := rfl
def kCh2 (s s' : M → M → Option O) (r : R) (fc : FE) : Option (R × Ev) → Option (R × Ev)
  | some (r2, ρ) => kCh3 s' r2 fc (kBin3 s ρ r2 (r.look ρ))
  | _ => none
theorem kCh2_0 (s s' : M → M → Option O) (r : R) (fc : FE) (r2 : R) (ρ : Ev) : kCh2 s s' r fc (some (r2, ρ)) = kCh3 s' r2 fc (kBin3 s ρ r2 (r.look ρ)) := rfl
def kCh1 (s s' : M → M → Option O) (fb fc : FE) : Option (R × Ev) → Option (R × Ev)
  | some (r, ρ) => kCh2 s s' r fc (fb ρ)
  | _ => none
theorem kCh1_0 (s s' : M → M → Option O) (fb fc : FE) (r : R) (ρ : Ev) : kCh1 s s' fb fc (some (r, ρ)) = kCh2 s s' r fc (fb ρ) := rfl
theorem fCh_e (s s' : M → M → Option O) : fCh s s' fa fb fc ρ = kCh1 s s' fb fc (fa ρ) := by
  unfold fCh
  cases fa ρ with
  | none => rfl
  | some a =>
    show ((fb a.2).bind fun b => _) = kCh2 s s' a.1 fc (fb a.2)
    cases fb a.2 with
    | none => rfl
    | some b =>
      show ((a.1.look b.2).bind fun m1 => (b.1.look b.2).bind fun m2 => (s m1 m2).bind _) = kCh3 s' b.1 fc (kBin3 s b.2 b.1 (a.1.look b.2))
      cases a.1.look b.2 with
      | none => rfl
      | some m1 =>
        show ((b.1.look b.2).bind fun m2 => (s m1 m2).bind _) = kCh3 s' b.1 fc (kBin3b s b.2 m1 (b.1.look b.2))
        cases b.1.look b.2 with
        | none => rfl
        | some m2 =>
          show ((s m1 m2).bind _) = kCh3 s' b.1 fc (kO b.2 (s m1 m2))
          cases s m1 m2 with
          | none => rfl
          | some o =>
            cases o with
            | nt l => rfl
            | nl l => rfl
            | ex d =>
              cases d with
              | bl t =>
                cases t with
                | false => rfl
                | true =>
                  show ((fc b.2).bind fun c => _) = kCh4 s' b.1 (fc b.2)
                  cases fc b.2 with
                  | none => rfl
                  | some c =>
                    show ((b.1.look c.2).bind fun m2 => (c.1.look c.2).bind fun m3 => (s' m2 m3).map _) = kBin3 s' c.2 c.1 (b.1.look c.2)
                    cases b.1.look c.2 with
                    | none => rfl
                    | some m2 =>
                      show ((c.1.look c.2).bind fun m3 => (s' m2 m3).map _) = kBin3b s' c.2 m2 (c.1.look c.2)
                      cases c.1.look c.2 with
                      | none => rfl
                      | some m3 => show (s' m2 m3).map _ = kO c.2 (s' m2 m3); cases s' m2 m3 <;> rfl
              | _ => rfl
def kSl4 (ρ : Ev) (lo hi : Option Int) : Option M → Option (R × Ev)
  | some m => kO ρ (sSl m lo hi)
  | _ => none
theorem kSl4_0 (ρ : Ev) (lo hi : Option Int) (m : M) : kSl4 ρ lo hi (some m) = kO ρ (sSl m lo hi) := rfl
def kSl3 (r : R) (lo : Option Int) : Option (Option Int × Ev) → Option (R × Ev)
  | some (hi, ρ) => kSl4 ρ lo hi (r.look ρ)
  | _ => none
theorem kSl3_0 (r : R) (lo : Option Int) (hi : Option Int) (ρ : Ev) : kSl3 r lo (some (hi, ρ)) = kSl4 ρ lo hi (r.look ρ) := rfl
def kSl2 (fh : FO) (r : R) : Option (Option Int × Ev) → Option (R × Ev)
  | some (lo, ρ) => kSl3 r lo (fh ρ)
  | _ => none
theorem kSl2_0 (fh : FO) (r : R) (lo : Option Int) (ρ : Ev) : kSl2 fh r (some (lo, ρ)) = kSl3 r lo (fh ρ) := rfl
def kSl1 (fl fh : FO) : Option (R × Ev) → Option (R × Ev)
  | some (r, ρ) => kSl2 fh r (fl ρ)
  | _ => none
theorem kSl1_0 (fl fh : FO) (r : R) (ρ : Ev) : kSl1 fl fh (some (r, ρ)) = kSl2 fh r (fl ρ) := rfl
theorem fSl_e : fSl f fl fh ρ = kSl1 fl fh (f ρ) := by
  unfold fSl
  cases f ρ with
  | none => rfl
  | some a =>
    show ((fl a.2).bind fun l => _) = kSl2 fh a.1 (fl a.2)
    cases fl a.2 with
    | none => rfl
    | some l =>
      show ((fh l.2).bind fun h => _) = kSl3 a.1 l.1 (fh l.2)
      cases fh l.2 with
      | none => rfl
      | some h =>
        show ((a.1.look h.2).bind fun m => _) = kSl4 h.2 l.1 h.1 (a.1.look h.2)
        cases a.1.look h.2 with
        | none => rfl
        | some m => show (sSl m l.1 h.1).map _ = kO h.2 (sSl m l.1 h.1); cases sSl m l.1 h.1 <;> rfl
theorem fONone_e : fONone ρ = some (none, ρ) := rfl
def kOS  : Option (R × Ev) → Option (Option Int × Ev)
  | some (.vl (.fz (.int i)), ρ) => some (some i, ρ)
  | _ => none
theorem kOS_0  (i : Int) (ρ : Ev) : kOS  (some (.vl (.fz (.int i)), ρ)) = some (some i, ρ) := rfl
theorem fOSome_e : fOSome f ρ = kOS (f ρ) := rfl
def kNeg  : Option (R × Ev) → Option (R × Ev)
  | some (.vl (.fz (.int i)), ρ) => some (.vl (.fz (.int (-i))), ρ)
  | _ => none
theorem kNeg_0  (i : Int) (ρ : Ev) : kNeg  (some (.vl (.fz (.int i)), ρ)) = some (.vl (.fz (.int (-i))), ρ) := rfl
theorem fNeg_e : fNeg f ρ = kNeg (f ρ) := rfl
def kRl3 (ρ : Ev) : Option (List D) → Option (R × Ev)
  | some l => some (.vl (.ow (l.reverse.map .fz)), ρ)
  | _ => none
theorem kRl3_0 (ρ : Ev) (l : List D) : kRl3 ρ (some l) = some (.vl (.ow (l.reverse.map .fz)), ρ) := rfl
def kRl2 (ρ : Ev) : Option M → Option (R × Ev)
  | some m => kRl3 ρ (asL m)
  | _ => none
theorem kRl2_0 (ρ : Ev) (m : M) : kRl2 ρ (some m) = kRl3 ρ (asL m) := rfl
def kRl1  : Option (R × Ev) → Option (R × Ev)
  | some (r, ρ) => kRl2 ρ (r.look ρ)
  | _ => none
theorem kRl1_0  (r : R) (ρ : Ev) : kRl1  (some (r, ρ)) = kRl2 ρ (r.look ρ) := rfl
theorem fRevL_e : fRevL f ρ = kRl1 (f ρ) := by
  unfold fRevL
  cases f ρ with
  | none => rfl
  | some a =>
    show ((a.1.look a.2).bind fun m => _) = kRl2 a.2 (a.1.look a.2)
    cases a.1.look a.2 with
    | none => rfl
    | some m => show (asL m).map _ = kRl3 a.2 (asL m); cases asL m <;> rfl
def kIsi2 (T : String) (ρ : Ev) : Option M → Option (R × Ev)
  | some m => some (.vl (.fz (.bl (isiB (tyM m) T))), ρ)
  | _ => none
theorem kIsi2_0 (T : String) (ρ : Ev) (m : M) : kIsi2 T ρ (some m) = some (.vl (.fz (.bl (isiB (tyM m) T))), ρ) := rfl
def kIsi1 (T : String) : Option (R × Ev) → Option (R × Ev)
  | some (r, ρ) => kIsi2 T ρ (r.look ρ)
  | _ => none
theorem kIsi1_0 (T : String) (r : R) (ρ : Ev) : kIsi1 T (some (r, ρ)) = kIsi2 T ρ (r.look ρ) := rfl
theorem fIsi_e (T : String) : fIsi T f ρ = kIsi1 T (f ρ) := by
  unfold fIsi
  cases f ρ with
  | none => rfl
  | some a => show (a.1.look a.2).map _ = kIsi2 T a.2 (a.1.look a.2); cases a.1.look a.2 <;> rfl
def kIsj2 (T U : String) (ρ : Ev) : Option M → Option (R × Ev)
  | some m => some (.vl (.fz (.bl (isiB (tyM m) T || isiB (tyM m) U))), ρ)
  | _ => none
theorem kIsj2_0 (T U : String) (ρ : Ev) (m : M) : kIsj2 T U ρ (some m) = some (.vl (.fz (.bl (isiB (tyM m) T || isiB (tyM m) U))), ρ) := rfl
def kIsj1 (T U : String) : Option (R × Ev) → Option (R × Ev)
  | some (r, ρ) => kIsj2 T U ρ (r.look ρ)
  | _ => none
theorem kIsj1_0 (T U : String) (r : R) (ρ : Ev) : kIsj1 T U (some (r, ρ)) = kIsj2 T U ρ (r.look ρ) := rfl
theorem fIsi2_e (T U : String) : fIsi2 T U f ρ = kIsj1 T U (f ρ) := by
  unfold fIsi2
  cases f ρ with
  | none => rfl
  | some a => show (a.1.look a.2).map _ = kIsj2 T U a.2 (a.1.look a.2); cases a.1.look a.2 <;> rfl
def kR1  : Option (R × Ev) → Option (Int × Int × Ev)
  | some (.vl (.fz (.int i)), ρ) => some (0, i, ρ)
  | _ => none
theorem kR1_0  (i : Int) (ρ : Ev) : kR1  (some (.vl (.fz (.int i)), ρ)) = some (0, i, ρ) := rfl
theorem fR1_e : fR1 f ρ = kR1 (f ρ) := rfl
def kR2b (i : Int) : Option (R × Ev) → Option (Int × Int × Ev)
  | some (.vl (.fz (.int j)), ρ) => some (i, j, ρ)
  | _ => none
theorem kR2b_0 (i : Int) (j : Int) (ρ : Ev) : kR2b i (some (.vl (.fz (.int j)), ρ)) = some (i, j, ρ) := rfl
def kR2 (fb : FE) : Option (R × Ev) → Option (Int × Int × Ev)
  | some (.vl (.fz (.int i)), ρ) => kR2b i (fb ρ)
  | _ => none
theorem kR2_0 (fb : FE) (i : Int) (ρ : Ev) : kR2 fb (some (.vl (.fz (.int i)), ρ)) = kR2b i (fb ρ) := rfl
theorem fR2_e : fR2 fa fb ρ = kR2 fb (fa ρ) := by
  unfold fR2
  split
  · rename_i i ρ1 h; rw [h]; rfl
  · unfold kR2; split <;> simp_all
def kLRg  : Option (Int × Int × Ev) → Option (R × Ev)
  | some (i, j, ρ) => gB (inR2 i j = true) (some (.vl (.ow ((rgD i (j - i).toNat).map .fz)), ρ))
  | _ => none
theorem kLRg_0  (i j : Int) (ρ : Ev) : kLRg  (some (i, j, ρ)) = gB (inR2 i j = true) (some (.vl (.ow ((rgD i (j - i).toNat).map .fz)), ρ)) := rfl
theorem fLRg_e (f : FR) : fLRg f ρ = kLRg (f ρ) := by
  unfold fLRg; cases f ρ <;> rfl
def kTRg  : Option (Int × Int × Ev) → Option (R × Ev)
  | some (i, j, ρ) => gB (inR2 i j = true) (some (.vl (.fz (.tup (rgD i (j - i).toNat))), ρ))
  | _ => none
theorem kTRg_0  (i j : Int) (ρ : Ev) : kTRg  (some (i, j, ρ)) = gB (inR2 i j = true) (some (.vl (.fz (.tup (rgD i (j - i).toNat))), ρ)) := rfl
theorem fTRg_e (f : FR) : fTRg f ρ = kTRg (f ρ) := by
  unfold fTRg; cases f ρ <;> rfl
def kFor (g : FG) (fs : FS) : Option (List D × Ev) → Option Out
  | some (ds, ρ) => fLoop g fs ds ρ
  | _ => none
theorem kFor_0 (g : FG) (fs : FS) (ds : List D) (ρ : Ev) : kFor g fs (some (ds, ρ)) = fLoop g fs ds ρ := rfl
theorem fFor_e (fi : FI) : fFor fi g fs ρ = kFor g fs (fi ρ) := by
  unfold fFor; cases fi ρ <;> rfl
def kSI2 (ρ : Ev) : Option (List D) → Option (List D × Ev)
  | some ds => some (ds, ρ)
  | _ => none
theorem kSI2_0 (ρ : Ev) (ds : List D) : kSI2 ρ (some ds) = some (ds, ρ) := rfl
def kSI1  : Option (R × Ev) → Option (List D × Ev)
  | some (.vl (.fz d), ρ) => kSI2 ρ (seqOf d)
  | _ => none
theorem kSI1_0  (d : D) (ρ : Ev) : kSI1  (some (.vl (.fz d), ρ)) = kSI2 ρ (seqOf d) := rfl
theorem fSeqI_e : fSeqI f ρ = kSI1 (f ρ) := by
  unfold fSeqI
  split
  · rename_i d ρ1 h; rw [h]; show (seqOf d).map _ = kSI2 ρ1 (seqOf d); cases seqOf d <;> rfl
  · unfold kSI1; split <;> simp_all
def kRg1  : Option (List R × Ev) → Option (List D × Ev)
  | some ([.vl (.fz (.int j))], ρ) => gB (inR j = true) (some (rgD 0 j.toNat, ρ))
  | _ => none
theorem kRg1_0  (j : Int) (ρ : Ev) : kRg1  (some ([.vl (.fz (.int j))], ρ)) = gB (inR j = true) (some (rgD 0 j.toNat, ρ)) := rfl
theorem fRg1_e : fRg1 fA ρ = kRg1 (fA ρ) := rfl
def kRg2  : Option (List R × Ev) → Option (List D × Ev)
  | some ([.vl (.fz (.int i)), .vl (.fz (.int j))], ρ) => gB ((inR i && inR j) = true) (some (rgD i (j - i).toNat, ρ))
  | _ => none
theorem kRg2_0  (i j : Int) (ρ : Ev) : kRg2  (some ([.vl (.fz (.int i)), .vl (.fz (.int j))], ρ)) = gB ((inR i && inR j) = true) (some (rgD i (j - i).toNat, ρ)) := rfl
theorem fRg2_e : fRg2 fA ρ = kRg2 (fA ρ) := rfl
def kRg3  : Option (List R × Ev) → Option (List D × Ev)
  | some ([.vl (.fz (.int i)), .vl (.fz (.int j)), .vl (.fz (.int c))], ρ) => gB (okC i j c = true) (some (rgC i c (szC i j c), ρ))
  | _ => none
theorem kRg3_0  (i j c : Int) (ρ : Ev) : kRg3  (some ([.vl (.fz (.int i)), .vl (.fz (.int j)), .vl (.fz (.int c))], ρ)) = gB (okC i j c = true) (some (rgC i c (szC i j c), ρ)) := rfl
theorem fRg3_e : fRg3 fA ρ = kRg3 (fA ρ) := rfl
def kEn2 (ρ : Ev) : Option (List D) → Option (List D × Ev)
  | some l => some (enD 0 l, ρ)
  | _ => none
theorem kEn2_0 (ρ : Ev) (l : List D) : kEn2 ρ (some l) = some (enD 0 l, ρ) := rfl
def kEn1  : Option (List R × Ev) → Option (List D × Ev)
  | some ([.vl (.fz d)], ρ) => kEn2 ρ (lstOf d)
  | _ => none
theorem kEn1_0  (d : D) (ρ : Ev) : kEn1  (some ([.vl (.fz d)], ρ)) = kEn2 ρ (lstOf d) := rfl
theorem fEnum_e : fEnum fA ρ = kEn1 (fA ρ) := by
  unfold fEnum
  split
  · rename_i d ρ1 h; rw [h]; show (lstOf d).map _ = kEn2 ρ1 (lstOf d); cases lstOf d <;> rfl
  · unfold kEn1; split <;> simp_all
def kEa1  : Option (List R × Ev) → Option (List D × Ev)
  | some ([.vl (.fz d)], ρ) => kEn2 ρ (seqOf d)
  | _ => none
theorem kEa1_0  (d : D) (ρ : Ev) : kEa1  (some ([.vl (.fz d)], ρ)) = kEn2 ρ (seqOf d) := rfl
theorem fEnumA_e : fEnumA fA ρ = kEa1 (fA ρ) := by
  unfold fEnumA
  split
  · rename_i d ρ1 h; rw [h]; show (seqOf d).map _ = kEn2 ρ1 (seqOf d); cases seqOf d <;> rfl
  · unfold kEa1; split <;> simp_all
def kId2 (r : R) (fb : FE) (ρ : Ev) : Option M → Option (R × Ev)
  | some m => gB (isLs m = true) (kBin2 sIdx r (fb ρ))
  | _ => none
theorem kId2_0 (r : R) (fb : FE) (ρ : Ev) (m : M) : kId2 r fb ρ (some m) = gB (isLs m = true) (kBin2 sIdx r (fb ρ)) := rfl
def kId1 (fb : FE) : Option (R × Ev) → Option (R × Ev)
  | some (r, ρ) => kId2 r fb ρ (r.look ρ)
  | _ => none
theorem kId1_0 (fb : FE) (r : R) (ρ : Ev) : kId1 fb (some (r, ρ)) = kId2 r fb ρ (r.look ρ) := rfl
theorem fIdx_e : fIdx fa fb ρ = kId1 fb (fa ρ) := by
  unfold fIdx
  cases fa ρ with
  | none => rfl
  | some a =>
    show ((a.1.look a.2).bind fun m0 => _) = kId2 a.1 fb a.2 (a.1.look a.2)
    cases a.1.look a.2 with
    | none => rfl
    | some m0 =>
      show (if _ then _ else _) = gB _ _
      unfold gB
      by_cases hl : isLs m0 = true
      · rw [if_pos hl, if_pos hl]
        cases fb a.2 with
        | none => rfl
        | some b =>
          show ((a.1.look b.2).bind fun m => _) = kBin3 sIdx b.2 b.1 (a.1.look b.2)
          cases a.1.look b.2 with
          | none => rfl
          | some m =>
            show ((b.1.look b.2).bind fun n => _) = kBin3b sIdx b.2 m (b.1.look b.2)
            cases b.1.look b.2 with
            | none => rfl
            | some n => show (sIdx m n).map _ = kO b.2 (sIdx m n); cases sIdx m n <;> rfl
      · rw [if_neg hl, if_neg hl]
def kCm2  : Option (List M × Ev) → Option (R × Ev)
  | some (l, ρ) => some (.vl (.ow l), ρ)
  | _ => none
theorem kCm2_0  (l : List M) (ρ : Ev) : kCm2  (some (l, ρ)) = some (.vl (.ow l), ρ) := rfl
def kCm1 (g : FG) (ft : FT) (fe : FE) (vs : List Nat) : Option (List D × Ev) → Option (R × Ev)
  | some (ds, ρ) => kCm2 (fCompL g ft fe vs ds [] (wipeE ρ vs))
  | _ => none
theorem kCm1_0 (g : FG) (ft : FT) (fe : FE) (vs : List Nat) (ds : List D) (ρ : Ev) : kCm1 g ft fe vs (some (ds, ρ)) = kCm2 (fCompL g ft fe vs ds [] (wipeE ρ vs)) := rfl
theorem fComp_e (fi : FI) (vs : List Nat) : fComp fi g ft f vs ρ = kCm1 g ft f vs (fi ρ) := by
  unfold fComp
  cases fi ρ with
  | none => rfl
  | some a => show (fCompL g ft f vs a.1 [] (wipeE a.2 vs)).map _ = kCm2 (fCompL g ft f vs a.1 [] (wipeE a.2 vs)); cases fCompL g ft f vs a.1 [] (wipeE a.2 vs) <;> rfl
def kCm1b (g : FG) (ft : FT) (fi1 : FI) (g1 : FG) (ft1 : FT) (fe : FE) (vs vs1 : List Nat) : Option (List D × Ev) → Option (R × Ev)
  | some (ds, ρ) => kCm2 (fComp2L g ft fi1 g1 ft1 fe vs vs1 ds [] (wipeE ρ vs))
  | _ => none
theorem kCm1b_0 (g : FG) (ft : FT) (fi1 : FI) (g1 : FG) (ft1 : FT) (fe : FE) (vs vs1 : List Nat) (ds : List D) (ρ : Ev) : kCm1b g ft fi1 g1 ft1 fe vs vs1 (some (ds, ρ)) = kCm2 (fComp2L g ft fi1 g1 ft1 fe vs vs1 ds [] (wipeE ρ vs)) := rfl
theorem fComp2_e (fi fi1 : FI) (g1 : FG) (ft1 : FT) (vs vs1 : List Nat) : fComp2 fi g ft fi1 g1 ft1 f vs vs1 ρ = kCm1b g ft fi1 g1 ft1 f vs vs1 (fi ρ) := by
  unfold fComp2
  cases fi ρ with
  | none => rfl
  | some a => show (fComp2L g ft fi1 g1 ft1 f vs vs1 a.1 [] (wipeE a.2 vs)).map _ = kCm2 (fComp2L g ft fi1 g1 ft1 f vs vs1 a.1 [] (wipeE a.2 vs)); cases fComp2L g ft fi1 g1 ft1 f vs vs1 a.1 [] (wipeE a.2 vs) <;> rfl
theorem wipe_n : wipeE ρ [] = ρ := rfl
theorem wipe_c (v : Nat) (vs : List Nat) : wipeE ρ (v :: vs) = (wipeE ρ vs).set v none := rfl
theorem fYes_e : fYes ρ = some (true, ρ) := rfl
def kLs4 (ρ : Ev) : Option (List Int) → Option (R × Ev)
  | some ns => gB (ns.Nodup ∧ ns.length ≤ 4000) (some (.vl (.fz (.int ns.length)), ρ))
  | _ => none
theorem kLs4_0 (ρ : Ev) (ns : List Int) : kLs4 ρ (some ns) = gB (ns.Nodup ∧ ns.length ≤ 4000) (some (.vl (.fz (.int ns.length)), ρ)) := rfl
def kLs3 (ρ : Ev) : Option (List D) → Option (R × Ev)
  | some l => kLs4 ρ (dints l)
  | _ => none
theorem kLs3_0 (ρ : Ev) (l : List D) : kLs3 ρ (some l) = kLs4 ρ (dints l) := rfl
def kLs2 (ρ : Ev) : Option M → Option (R × Ev)
  | some m => kLs3 ρ (seqD m)
  | _ => none
theorem kLs2_0 (ρ : Ev) (m : M) : kLs2 ρ (some m) = kLs3 ρ (seqD m) := rfl
def kLs1  : Option (R × Ev) → Option (R × Ev)
  | some (r, ρ) => kLs2 ρ (r.look ρ)
  | _ => none
theorem kLs1_0  (r : R) (ρ : Ev) : kLs1  (some (r, ρ)) = kLs2 ρ (r.look ρ) := rfl
theorem fLenSet_e : fLenSet f ρ = kLs1 (f ρ) := by
  unfold fLenSet
  cases f ρ with
  | none => rfl
  | some a =>
    show ((a.1.look a.2).bind fun m => _) = kLs2 a.2 (a.1.look a.2)
    cases a.1.look a.2 with
    | none => rfl
    | some m =>
      show ((seqD m).bind fun l => _) = kLs3 a.2 (seqD m)
      cases seqD m with
      | none => rfl
      | some l => show ((dints l).bind fun l => _) = kLs4 a.2 (dints l); cases dints l <;> rfl
def kFn (C : Nat → Bool) (n : Nat) : Option Out → Option (M × List (Option M))
  | some (.nx ρ) => some (.fz .non, outsOf C n ρ)
  | some (.rt m ρ) => some (m, outsOf C n ρ)
  | _ => none
theorem kFn_0 (C : Nat → Bool) (n : Nat) (ρ : Ev) : kFn C n (some (.nx ρ)) = some (.fz .non, outsOf C n ρ) := rfl
theorem kFn_1 (C : Nat → Bool) (n : Nat) (m : M) (ρ : Ev) : kFn C n (some (.rt m ρ)) = some (m, outsOf C n ρ) := rfl
def oC (b : Bool) (x : Option M) : Option M := if b then x else none
theorem oC_t (x : Option M) : oC true x = x := rfl
theorem oC_f (x : Option M) : oC false x = none := rfl
def oL (C : Nat → Bool) : Nat → Nat → Ev → List (Option M)
  | _, 0, _ => []
  | i, n + 1, [] => none :: oL C (i + 1) n []
  | i, n + 1, x :: ρ => oC (C i) x :: oL C (i + 1) n ρ
theorem oL_0 (C : Nat → Bool) (i : Nat) (ρ : Ev) : oL C i 0 ρ = [] := by cases ρ <;> rfl
theorem oL_1 (C : Nat → Bool) (i n : Nat) (x : Option M) (ρ : Ev) : oL C i (n + 1) (x :: ρ) = oC (C i) x :: oL C (i + 1) n ρ := rfl
theorem oL_map (C : Nat → Bool) : ∀ (n i : Nat) (ρ : Ev), oL C i n ρ = (List.range n).map fun j => if C (i + j) = true then (ρ[j]?).join else none
  | 0, i, ρ => oL_0 C i ρ
  | n + 1, i, [] => by
    rw [List.range_succ_eq_map, List.map_cons, List.map_map]
    show none :: oL C (i + 1) n [] = _
    rw [oL_map C n (i + 1) []]
    congr 1
    · simp
    · apply List.map_congr_left; intro j _; simp
  | n + 1, i, x :: ρ => by
    rw [List.range_succ_eq_map, List.map_cons, List.map_map]
    show oC (C i) x :: oL C (i + 1) n ρ = _
    rw [oL_map C n (i + 1) ρ]
    congr 1
    apply List.map_congr_left
    intro j _
    simp only [Function.comp, List.getElem?_cons_succ]
    rw [show i + 1 + j = i + Nat.succ j by omega]
theorem outs_o (C : Nat → Bool) (n : Nat) (ρ : Ev) : outsOf C n ρ = oL C 0 n ρ := by
  rw [oL_map]; unfold outsOf; simp
theorem cK_n (i : Nat) : cK [] i = false := rfl
theorem cK_c (a i : Nat) (l : List Nat) : cK (a :: l) i = cond (i == a) true (cK l i) := by
  show (List.contains (a :: l) i) = _
  rw [List.contains_cons]
  cases i == a <;> rfl
def cN (l : List Nat) : Nat → Bool := fun i => !l.contains i
theorem cN_n (i : Nat) : cN [] i = true := rfl
theorem cN_c (a i : Nat) (l : List Nat) : cN (a :: l) i = cond (i == a) false (cN l i) := by
  show (!List.contains (a :: l) i) = _
  rw [List.contains_cons]
  cases i == a <;> rfl
theorem fnG_e (n N : Nat) (C : Nat → Bool) (body : FS) (ms : List M) : fnG n N C body ms = kFn C n (body (ms.map some ++ List.replicate (N - n) none)) := by
  unfold fnG
  cases body _ with
  | none => rfl
  | some o => cases o <;> rfl
def kW2 (c : FT) (body : FS) (n : Nat) : Option Out → Option Out
  | some (.nx ρ) => fWhile c body n ρ
  | some (.ct ρ) => fWhile c body n ρ
  | some (.bk ρ) => some (.nx ρ)
  | some (.rt m ρ) => some (.rt m ρ)
  | _ => none
theorem kW2_0 (c : FT) (body : FS) (n : Nat) (ρ : Ev) : kW2 c body n (some (.nx ρ)) = fWhile c body n ρ := rfl
theorem kW2_1 (c : FT) (body : FS) (n : Nat) (ρ : Ev) : kW2 c body n (some (.ct ρ)) = fWhile c body n ρ := rfl
theorem kW2_2 (c : FT) (body : FS) (n : Nat) (ρ : Ev) : kW2 c body n (some (.bk ρ)) = some (.nx ρ) := rfl
theorem kW2_3 (c : FT) (body : FS) (n : Nat) (m : M) (ρ : Ev) : kW2 c body n (some (.rt m ρ)) = some (.rt m ρ) := rfl
def kW1 (c : FT) (body : FS) (n : Nat) : Option (Bool × Ev) → Option Out
  | some (true, ρ) => kW2 c body n (body ρ)
  | some (false, ρ) => some (.nx ρ)
  | _ => none
theorem kW1_0 (c : FT) (body : FS) (n : Nat) (ρ : Ev) : kW1 c body n (some (true, ρ)) = kW2 c body n (body ρ) := rfl
theorem kW1_1 (c : FT) (body : FS) (n : Nat) (ρ : Ev) : kW1 c body n (some (false, ρ)) = some (.nx ρ) := rfl
theorem fWhile_e (c : FT) (body : FS) (n : Nat) : fWhile c body (n + 1) ρ = kW1 c body n (c ρ) := by
  show ((c ρ).bind fun a => _) = _
  cases c ρ with
  | none => rfl
  | some a =>
    obtain ⟨b, ρ'⟩ := a
    cases b with
    | false => rfl
    | true =>
      show ((body ρ').bind fun o => _) = kW2 c body n (body ρ')
      cases body ρ' with
      | none => rfl
      | some o => cases o <;> rfl
section
variable {c : FT} {body : FS} {n : Nat} {ρ1 ρ2 : Ev} {d : D} {ds : List D}
theorem while_go (h1 : c ρ = some (true, ρ1)) (h2 : body ρ1 = some (.nx ρ2)) : fWhile c body (n + 1) ρ = fWhile c body n ρ2 := by rw [fWhile_e, h1, kW1_0, h2, kW2_0]
theorem while_ct (h1 : c ρ = some (true, ρ1)) (h2 : body ρ1 = some (.ct ρ2)) : fWhile c body (n + 1) ρ = fWhile c body n ρ2 := by rw [fWhile_e, h1, kW1_0, h2, kW2_1]
theorem while_bk (h1 : c ρ = some (true, ρ1)) (h2 : body ρ1 = some (.bk ρ2)) : fWhile c body (n + 1) ρ = some (.nx ρ2) := by rw [fWhile_e, h1, kW1_0, h2, kW2_2]
theorem while_rt {m : M} (h1 : c ρ = some (true, ρ1)) (h2 : body ρ1 = some (.rt m ρ2)) : fWhile c body (n + 1) ρ = some (.rt m ρ2) := by rw [fWhile_e, h1, kW1_0, h2, kW2_3]
theorem while_end (h1 : c ρ = some (false, ρ1)) : fWhile c body (n + 1) ρ = some (.nx ρ1) := by rw [fWhile_e, h1, kW1_1]
end
def kL2 (g : FG) (body : FS) (ds : List D) : Option Out → Option Out
  | some (.nx ρ) => fLoop g body ds ρ
  | some (.ct ρ) => fLoop g body ds ρ
  | some (.bk ρ) => some (.nx ρ)
  | some (.rt m ρ) => some (.rt m ρ)
  | _ => none
theorem kL2_0 (g : FG) (body : FS) (ds : List D) (ρ : Ev) : kL2 g body ds (some (.nx ρ)) = fLoop g body ds ρ := rfl
theorem kL2_1 (g : FG) (body : FS) (ds : List D) (ρ : Ev) : kL2 g body ds (some (.ct ρ)) = fLoop g body ds ρ := rfl
theorem kL2_2 (g : FG) (body : FS) (ds : List D) (ρ : Ev) : kL2 g body ds (some (.bk ρ)) = some (.nx ρ) := rfl
theorem kL2_3 (g : FG) (body : FS) (ds : List D) (m : M) (ρ : Ev) : kL2 g body ds (some (.rt m ρ)) = some (.rt m ρ) := rfl
def kL1 (g : FG) (body : FS) (ds : List D) : Option Ev → Option Out
  | some ρ => kL2 g body ds (body ρ)
  | _ => none
theorem kL1_0 (g : FG) (body : FS) (ds : List D) (ρ : Ev) : kL1 g body ds (some ρ) = kL2 g body ds (body ρ) := rfl
theorem fLoop_n (body : FS) : fLoop g body [] ρ = some (.nx ρ) := rfl
theorem fLoop_c (body : FS) (d : D) (ds : List D) : fLoop g body (d :: ds) ρ = kL1 g body ds (g (.fz d) ρ) := by
  show ((g (.fz d) ρ).bind fun ρ1 => _) = _
  cases g (.fz d) ρ with
  | none => rfl
  | some ρ1 =>
    show ((body ρ1).bind fun o => _) = kL2 g body ds (body ρ1)
    cases body ρ1 with
    | none => rfl
    | some o => cases o <;> rfl
section
variable {body : FS} {ρ1 ρ2 : Ev} {d : D} {ds : List D}
theorem loop_go (h1 : g (.fz d) ρ = some ρ1) (h2 : body ρ1 = some (.nx ρ2)) : fLoop g body (d :: ds) ρ = fLoop g body ds ρ2 := by rw [fLoop_c, h1, kL1_0, h2, kL2_0]
theorem loop_ct (h1 : g (.fz d) ρ = some ρ1) (h2 : body ρ1 = some (.ct ρ2)) : fLoop g body (d :: ds) ρ = fLoop g body ds ρ2 := by rw [fLoop_c, h1, kL1_0, h2, kL2_1]
theorem loop_bk (h1 : g (.fz d) ρ = some ρ1) (h2 : body ρ1 = some (.bk ρ2)) : fLoop g body (d :: ds) ρ = some (.nx ρ2) := by rw [fLoop_c, h1, kL1_0, h2, kL2_2]
theorem loop_rt {m : M} (h1 : g (.fz d) ρ = some ρ1) (h2 : body ρ1 = some (.rt m ρ2)) : fLoop g body (d :: ds) ρ = some (.rt m ρ2) := by rw [fLoop_c, h1, kL1_0, h2, kL2_3]
end
def kC4 (g : FG) (ft : FT) (fe : FE) (vs : List Nat) (ds : List D) (acc : List M) : Option (R × Ev) → Option (List M × Ev)
  | some (.vl m, ρ) => gB (acc.length + 1 ≤ 100000) (fCompL g ft fe vs ds (acc ++ [m]) (wipeE ρ vs))
  | _ => none
theorem kC4_0 (g : FG) (ft : FT) (fe : FE) (vs : List Nat) (ds : List D) (acc : List M) (m : M) (ρ : Ev) : kC4 g ft fe vs ds acc (some (.vl m, ρ)) = gB (acc.length + 1 ≤ 100000) (fCompL g ft fe vs ds (acc ++ [m]) (wipeE ρ vs)) := rfl
theorem isi_NoneType_bool : isiB "NoneType" "bool" = false := by decide
theorem isi_NoneType_int : isiB "NoneType" "int" = false := by decide
theorem isi_NoneType_str : isiB "NoneType" "str" = false := by decide
theorem isi_NoneType_tuple : isiB "NoneType" "tuple" = false := by decide
theorem isi_NoneType_list : isiB "NoneType" "list" = false := by decide
theorem isi_NoneType_dict : isiB "NoneType" "dict" = false := by decide
theorem isi_bool_bool : isiB "bool" "bool" = true := by decide
theorem isi_bool_int : isiB "bool" "int" = true := by decide
theorem isi_bool_str : isiB "bool" "str" = false := by decide
theorem isi_bool_tuple : isiB "bool" "tuple" = false := by decide
theorem isi_bool_list : isiB "bool" "list" = false := by decide
theorem isi_bool_dict : isiB "bool" "dict" = false := by decide
theorem isi_int_bool : isiB "int" "bool" = false := by decide
theorem isi_int_int : isiB "int" "int" = true := by decide
theorem isi_int_str : isiB "int" "str" = false := by decide
theorem isi_int_tuple : isiB "int" "tuple" = false := by decide
theorem isi_int_list : isiB "int" "list" = false := by decide
theorem isi_int_dict : isiB "int" "dict" = false := by decide
theorem isi_str_bool : isiB "str" "bool" = false := by decide
theorem isi_str_int : isiB "str" "int" = false := by decide
theorem isi_str_str : isiB "str" "str" = true := by decide
theorem isi_str_tuple : isiB "str" "tuple" = false := by decide
theorem isi_str_list : isiB "str" "list" = false := by decide
theorem isi_str_dict : isiB "str" "dict" = false := by decide
theorem isi_tuple_bool : isiB "tuple" "bool" = false := by decide
theorem isi_tuple_int : isiB "tuple" "int" = false := by decide
theorem isi_tuple_str : isiB "tuple" "str" = false := by decide
theorem isi_tuple_tuple : isiB "tuple" "tuple" = true := by decide
theorem isi_tuple_list : isiB "tuple" "list" = false := by decide
theorem isi_tuple_dict : isiB "tuple" "dict" = false := by decide
theorem isi_list_bool : isiB "list" "bool" = false := by decide
theorem isi_list_int : isiB "list" "int" = false := by decide
theorem isi_list_str : isiB "list" "str" = false := by decide
theorem isi_list_tuple : isiB "list" "tuple" = false := by decide
theorem isi_list_list : isiB "list" "list" = true := by decide
theorem isi_list_dict : isiB "list" "dict" = false := by decide
theorem isi_dict_bool : isiB "dict" "bool" = false := by decide
theorem isi_dict_int : isiB "dict" "int" = false := by decide
theorem isi_dict_str : isiB "dict" "str" = false := by decide
theorem isi_dict_tuple : isiB "dict" "tuple" = false := by decide
theorem isi_dict_list : isiB "dict" "list" = false := by decide
theorem isi_dict_dict : isiB "dict" "dict" = true := by decide
theorem ex_m (d : D) : (O.ex d).m = .fz d := rfl
theorem nt_m (l : List D) : (O.nt l).m = .fz (.tup l) := rfl
theorem nl_m (l : List D) : (O.nl l).m = .ow (l.map .fz) := rfl
theorem frz_fz (d : D) : (M.fz d).frz = d := rfl
theorem frz_ow (l : List D) : (M.ow (l.map .fz)).frz = .lst l := by show D.lst (M.frzs _) = _; rw [frzs_fz]
theorem s1_e (g : M → Option O) (m : M) : s1 g [m] = g m := rfl
theorem s2_e (g : M → M → Option O) (m n : M) : s2 g [m, n] = g m n := rfl
theorem sAdd_i (i j : Int) : sAdd (.fz (.int i)) (.fz (.int j)) = some (.ex (.int (i + j))) := rfl
theorem sSub_i (i j : Int) : sSub (.fz (.int i)) (.fz (.int j)) = some (.ex (.int (i - j))) := rfl
theorem sMul_i (i j : Int) : sMul (.fz (.int i)) (.fz (.int j)) = gB (okMul i j = true) (some (.ex (.int (i * j)))) := rfl
theorem sDiv_i (i j : Int) : sDiv (.fz (.int i)) (.fz (.int j)) = gB (0 < j ∧ j.natAbs.log2 < 9000) (some (.ex (.int (i / j)))) := by
  show (if _ then _ else _) = gB _ _
  unfold gB
  by_cases h : 0 < j <;> by_cases h2 : j.natAbs.log2 < 9000 <;> simp [h, h2]
theorem sMod_i (i j : Int) : sMod (.fz (.int i)) (.fz (.int j)) = gB (0 < j) (some (.ex (.int (i % j)))) := by
  show (if _ then _ else _) = gB _ _
  unfold gB
  by_cases h : 0 < j <;> simp [h]
theorem sPow_i (i j : Int) : sPow (.fz (.int i)) (.fz (.int j)) = gB (0 ≤ j ∧ j ≤ 1000000 ∧ i.natAbs < 18446744073709551616) (some (.ex (.int (i ^ j.toNat)))) := by
  show (if _ then _ else _) = gB _ _
  unfold gB
  by_cases h : 0 ≤ j <;> by_cases h2 : j ≤ 1000000 <;> by_cases h3 : i.natAbs < 18446744073709551616 <;> simp [h, h2, h3]
theorem sLt_i (i j : Int) : sLt (.fz (.int i)) (.fz (.int j)) = some (.ex (.bl (decide (i < j)))) := rfl
theorem sLe_i (i j : Int) : sLe (.fz (.int i)) (.fz (.int j)) = some (.ex (.bl (decide (i ≤ j)))) := rfl
theorem sGt_i (i j : Int) : sGt (.fz (.int i)) (.fz (.int j)) = some (.ex (.bl (decide (j < i)))) := rfl
theorem sGe_i (i j : Int) : sGe (.fz (.int i)) (.fz (.int j)) = some (.ex (.bl (decide (j ≤ i)))) := rfl
def nB (n b : Bool) : Bool := if n then !b else b
theorem nB_t (b : Bool) : nB true b = !b := rfl
theorem nB_f (b : Bool) : nB false b = b := rfl
theorem sIs_n (n : Bool) (m : M) : sIs n m (.fz .non) = some (.ex (.bl (nB n (isN m)))) := by cases m with | fz d => cases d <;> rfl | ow l => rfl | dc a b => rfl
theorem sIs_b (n a b : Bool) : sIs n (.fz (.bl a)) (.fz (.bl b)) = some (.ex (.bl (nB n (decide (a = b))))) := rfl
theorem isN_n : isN (.fz .non) = true := rfl
theorem isN_t (l : List D) : isN (.fz (.tup l)) = false := rfl
theorem isN_l (l : List D) : isN (.fz (.lst l)) = false := rfl
theorem isN_r (l : List D) : isN (.fz (.rol l)) = false := rfl
theorem isN_i (l : Int) : isN (.fz (.int l)) = false := rfl
theorem isN_b (l : Bool) : isN (.fz (.bl l)) = false := rfl
theorem isN_s (l : Str) : isN (.fz (.str l)) = false := rfl
theorem isN_o (l : List M) : isN (.ow l) = false := rfl
theorem sEq_i (n : Bool) (i j : Int) : sEq n (.fz (.int i)) (.fz (.int j)) = some (.ex (.bl (nB n (decide (i = j))))) := sEq_int n i j
theorem sEq_b (n : Bool) (i j : Bool) : sEq n (.fz (.bl i)) (.fz (.bl j)) = some (.ex (.bl (nB n (decide (i = j))))) := sEq_bl n i j
theorem sEq_o (n : Bool) (l : List M) : sEq n (.ow l) (.ow []) = some (.ex (.bl (nB n l.isEmpty))) := sEq_ol n l
theorem sEq_l (n : Bool) (l : List D) : sEq n (.fz (.lst l)) (.ow []) = some (.ex (.bl (nB n l.isEmpty))) := sEq_fl n l
theorem sEq_t (n : Bool) (l : List D) : sEq n (.fz (.tup l)) (.fz (.tup [])) = some (.ex (.bl (nB n l.isEmpty))) := sEq_tl n l
theorem sIn_te (n : Bool) (i : Int) (ns : List Int) : sIn n (.fz (.int i)) (.fz (.tup (ns.map .int))) = some (.ex (.bl (nB n (decide (i ∈ ns))))) := sIn_t n i ns
theorem sIn_le (n : Bool) (i : Int) (ns : List Int) : sIn n (.fz (.int i)) (.fz (.lst (ns.map .int))) = some (.ex (.bl (nB n (decide (i ∈ ns))))) := sIn_l n i ns
def kEx : Option D → Option O
  | some d => some (.ex d)
  | none => none
theorem kEx_0 (d : D) : kEx (some d) = some (.ex d) := rfl
theorem map_kEx (x : Option D) : x.map O.ex = kEx x := by cases x <;> rfl
theorem sIx_t (l : List D) (i : Int) : sIx (.fz (.tup l)) (.fz (.int i)) = kEx (atI l i) := map_kEx _
theorem sIx_l (l : List D) (i : Int) : sIx (.fz (.lst l)) (.fz (.int i)) = kEx (atI l i) := map_kEx _
theorem sIx_r (l : List D) (i : Int) : sIx (.fz (.rol l)) (.fz (.int i)) = kEx (atI l i) := map_kEx _
def kIx (i : Int) : Option (List D) → Option O
  | some l => kEx (atI l i)
  | none => none
theorem kIx_0 (i : Int) (l : List D) : kIx i (some l) = kEx (atI l i) := rfl
theorem sIx_o (l : List M) (i : Int) : sIx (.ow l) (.fz (.int i)) = kIx i (unfz l) := by
  show ((unfz l).bind fun l => (atI l i).map O.ex) = _
  cases unfz l with
  | none => rfl
  | some l => exact map_kEx _
theorem unfz_n : unfz [] = some [] := rfl
theorem unfz_c (d : D) (r : List M) : unfz (.fz d :: r) = kAf d (unfz r) := by
  show (unfz r).map _ = _; cases unfz r <;> rfl
theorem unfz_m (l : List D) : unfz (l.map .fz) = some l := by
  induction l with
  | nil => rfl
  | cons d l ih => rw [List.map_cons, unfz_c, ih]; rfl
theorem at_0 (x : D) (l : List D) : atI (x :: l) 0 = some x := by
  unfold atI ixN; simp
theorem at_1 (x y : D) (l : List D) : atI (x :: y :: l) 1 = some y := atI_nat (j := 1) rfl
theorem at_2 (x y z : D) (l : List D) : atI (x :: y :: z :: l) 2 = some z := atI_nat (j := 2) rfl
theorem at_3 (x y z w : D) (l : List D) : atI (x :: y :: z :: w :: l) 3 = some w := atI_nat (j := 3) rfl
theorem gLen_t (l : List D) : gLen (.fz (.tup l)) = some (.ex (.int l.length)) := rfl
theorem gLen_l (l : List D) : gLen (.fz (.lst l)) = some (.ex (.int l.length)) := rfl
theorem gLen_r (l : List D) : gLen (.fz (.rol l)) = some (.ex (.int l.length)) := rfl
theorem gLen_o (l : List M) : gLen (.ow l) = some (.ex (.int l.length)) := rfl
theorem gInt_i (i : Int) : gInt (.fz (.int i)) = some (.ex (.int i)) := rfl
theorem gInt_b (b : Bool) : gInt (.fz (.bl b)) = some (.ex (.int (if b then 1 else 0))) := rfl
theorem gAbs_i (i : Int) : gAbs (.fz (.int i)) = some (.ex (.int (if i < 0 then -i else i))) := rfl
theorem gMax2_i (i j : Int) : gMax2 (.fz (.int i)) (.fz (.int j)) = some (.ex (.int (if j > i then j else i))) := rfl
theorem gMin2_i (i j : Int) : gMin2 (.fz (.int i)) (.fz (.int j)) = some (.ex (.int (if j < i then j else i))) := rfl
theorem gList_t (l : List D) : gList (.fz (.tup l)) = some (.nl l) := rfl
theorem gList_l (l : List D) : gList (.fz (.lst l)) = some (.nl l) := rfl
theorem gTuple_l (l : List D) : gTuple (.fz (.lst l)) = some (.nt l) := rfl
theorem gTuple_o (l : List D) : gTuple (.ow (l.map .fz)) = some (.nt l) := by
  show (unfz _).map _ = _; rw [unfz_m]; rfl
theorem gTuple_t (l : List D) : gTuple (.fz (.tup l)) = some (.ex (.tup l)) := rfl
theorem isLs_o (l : List M) : isLs (.ow l) = true := rfl
theorem isLs_l (l : List D) : isLs (.fz (.lst l)) = true := rfl
theorem isLs_r (l : List D) : isLs (.fz (.rol l)) = true := rfl
theorem tru_b (b : Bool) : tru (.fz (.bl b)) = some b := rfl
theorem tru_i (b : Int) : tru (.fz (.int b)) = some (b != 0) := rfl
theorem sApp_e (ms : List M) (m : M) : sApp ms [m] = gB (ms.length ≤ 100000) (some (ms ++ [m], .fz .non)) := rfl
theorem sExt_t (ms : List M) (l : List D) : sExt ms [.fz (.tup l)] = gB (ms.length + l.length ≤ 100000) (some (ms ++ l.map .fz, .fz .non)) := rfl
theorem sExt_l (ms : List M) (l : List D) : sExt ms [.fz (.lst l)] = gB (ms.length + l.length ≤ 100000) (some (ms ++ l.map .fz, .fz .non)) := rfl
theorem ty_int (i : Int) : tyM (.fz (.int i)) = "int" := rfl
theorem ty_bl (i : Bool) : tyM (.fz (.bl i)) = "bool" := rfl
theorem ty_non : tyM (.fz .non) = "NoneType" := rfl
theorem ty_str (i : Str) : tyM (.fz (.str i)) = "str" := rfl
theorem ty_tup (i : List D) : tyM (.fz (.tup i)) = "tuple" := rfl
theorem ty_lst (i : List D) : tyM (.fz (.lst i)) = "list" := rfl
theorem ty_rol (i : List D) : tyM (.fz (.rol i)) = "list" := rfl
theorem ty_ow (i : List M) : tyM (.ow i) = "list" := rfl
theorem seqOf_l (l : List D) : seqOf (.lst l) = some l := rfl
theorem seqOf_t (l : List D) : seqOf (.tup l) = some l := rfl
theorem seqOf_r (l : List D) : seqOf (.rol l) = some l := rfl
theorem oL_c0 : ∀ (n i : Nat) (ρ : Ev), 1 ≤ i → oL (cK [0]) i n ρ = List.replicate n none
  | 0, i, ρ, _ => oL_0 _ _ _
  | n + 1, i, [], h => by
    show none :: oL (cK [0]) (i + 1) n [] = _
    rw [oL_c0 n (i + 1) [] (by omega)]; rfl
  | n + 1, i, x :: ρ, h => by
    have e : cK [0] i = false := by cases i with | zero => omega | succ i => rfl
    show oC (cK [0] i) x :: oL (cK [0]) (i + 1) n ρ = _
    rw [e, oL_c0 n (i + 1) ρ (by omega)]; rfl
theorem okMul_l {i j : Int} (h : i.natAbs < 18446744073709551616) : okMul i j = true := by unfold okMul; simp [h]
theorem okMul_r {i j : Int} (h : j.natAbs < 18446744073709551616) : okMul i j = true := by unfold okMul; simp [h]
end Dv

set_option Elab.async false
set_option linter.all false
set_option maxRecDepth 100000
set_option maxHeartbeats 4000000
/-! Dn: more lemmas about the functions of Dv. -/
namespace Dv
open PySem PySem.Spec PyProof.Rows L2
theorem rgD0 (n : Nat) : rgD 0 n = (List.range n).map fun i => D.int (i : Nat) := by
  unfold rgD
  simp
theorem inRn {n : Nat} (h : n ≤ 1000000) : Dv.inR ((n : Nat) : Int) = true := by
  unfold Dv.inR; simp; omega
theorem seqI_nat {n i : Nat} (h : i < n) : PySem.seqIndex? (i : Int) n = some i := by
  unfold PySem.seqIndex?
  simp only [show ¬ ((i : Nat) : Int) < 0 by omega, if_false]
  rw [if_pos (by simp; omega)]
  simp
theorem er_map {α β : Type} (f : α → β) : ∀ (l : List α) (i : Nat), (l.map f).eraseIdx i = (l.eraseIdx i).map f
  | [], i => rfl
  | a :: l, 0 => rfl
  | a :: l, i + 1 => by
    show f a :: (l.map f).eraseIdx i = f a :: (l.eraseIdx i).map f
    rw [er_map f l i]
theorem er_perm {α : Type} : ∀ (l : List α) (i : Nat) (h : i < l.length), (l[i] :: l.eraseIdx i).Perm l
  | [], i, h => by simp at h
  | a :: l, 0, h => .refl _
  | a :: l, i + 1, h => by
    have h' : i < l.length := by simpa using h
    show (l[i] :: a :: l.eraseIdx i).Perm (a :: l)
    exact (List.Perm.swap _ _ _).trans ((er_perm l i h').cons a)
/-! comprehensions -/
theorem comp_yes {g : FG} {fe : FE} {vs : List Nat} {ρ : Ev} (val : D → M) (ds : List D) (h : ∀ d ∈ ds, ∃ ρ1 ρ3, g (.fz d) ρ = some ρ1 ∧ fe ρ1 = some (.vl (val d), ρ3) ∧ wipeE ρ3 vs = ρ)
    (hl : ds.length ≤ 100000) : fCompL g fYes fe vs ds [] ρ = some (ds.map val, ρ) := by
  have := comp_map (g := g) (ft := fYes) (fe := fe) (vs := vs) (ρ := ρ) val ds [] (fun d hd => by
    obtain ⟨ρ1, ρ3, h1, h2, h3⟩ := h d hd
    exact ⟨ρ1, ρ1, ρ3, h1, rfl, h2, h3⟩) (by simp; omega)
  simpa using this
theorem comp_al0 {α : Type} {g : FG} {fe : FE} {vs : List Nat} {ρ : Ev} (f : α → D) (val : α → M) : ∀ (l : List α) (acc : List M), (∀ x ∈ l, ∃ ρ1 ρ3, g (.fz (f x)) ρ = some ρ1 ∧ fe ρ1 = some (.vl (val x), ρ3) ∧ wipeE ρ3 vs = ρ) →
    acc.length + l.length ≤ 100000 → fCompL g fYes fe vs (l.map f) acc ρ = some (acc ++ l.map val, ρ)
  | [], acc, _, _ => by simp [fCompL]
  | x :: l, acc, h, hl => by
    obtain ⟨ρ1, ρ3, h1, h3, h4⟩ := h x List.mem_cons_self
    simp only [List.length_cons] at hl
    have ih := comp_al0 f val l (acc ++ [val x]) (fun e he => h e (List.mem_cons_of_mem _ he)) (by simp; omega)
    rw [List.map_cons]
    unfold fCompL
    simp only [h1, fYes, h3, Option.bind_some, if_true]
    rw [if_pos (by omega), h4, ih]
    simp
/-- a comprehension over mapped items, the rest as it was -/
theorem comp_al {α : Type} {g : FG} {fe : FE} {vs : List Nat} {ρ : Ev} (f : α → D) (val : α → M) (l : List α) (hl : l.length ≤ 100000) (h : ∀ x ∈ l, ∃ ρ1 ρ3, g (.fz (f x)) ρ = some ρ1 ∧ fe ρ1 = some (.vl (val x), ρ3) ∧ wipeE ρ3 vs = ρ) :
    fCompL g fYes fe vs (l.map f) [] ρ = some (l.map val, ρ) := by
  have := comp_al0 f val l [] h (by simpa using hl)
  simpa using this
theorem comp_alf0 {α : Type} {g : FG} {ft : FT} {fe : FE} {vs : List Nat} {ρ : Ev} (f : α → D) (p : α → Bool) (val : α → M) : ∀ (l : List α) (acc : List M), (∀ x ∈ l, ∃ ρ1 ρ2, g (.fz (f x)) ρ = some ρ1 ∧ ft ρ1 = some (p x, ρ2) ∧ (p x = false → wipeE ρ2 vs = ρ) ∧ (p x = true → ∃ ρ3, fe ρ2 = some (.vl (val x), ρ3) ∧ wipeE ρ3 vs = ρ)) →
    acc.length + l.length ≤ 100000 → fCompL g ft fe vs (l.map f) acc ρ = some (acc ++ (l.filter p).map val, ρ)
  | [], acc, _, _ => by simp [fCompL]
  | x :: l, acc, h, hl => by
    obtain ⟨ρ1, ρ2, h1, h2, h3, h4⟩ := h x List.mem_cons_self
    simp only [List.length_cons] at hl
    rw [List.map_cons]
    unfold fCompL
    simp only [h1, h2, Option.bind_some]
    cases hp : p x with
    | false =>
      simp only [Bool.false_eq_true, if_false, h3 hp]
      rw [comp_alf0 f p val l acc (fun e he => h e (List.mem_cons_of_mem _ he)) (by omega), List.filter_cons_of_neg (by simp [hp])]
    | true =>
      obtain ⟨ρ3, h5, h6⟩ := h4 hp
      simp only [if_true, h5]
      rw [if_pos (by omega), h6, comp_alf0 f p val l (acc ++ [val x]) (fun e he => h e (List.mem_cons_of_mem _ he)) (by simp; omega), List.filter_cons_of_pos hp]
      simp
/-- .. with a test -/
theorem comp_alf {α : Type} {g : FG} {ft : FT} {fe : FE} {vs : List Nat} {ρ : Ev} (f : α → D) (p : α → Bool) (val : α → M) (l : List α) (hl : l.length ≤ 100000) (h : ∀ x ∈ l, ∃ ρ1 ρ2, g (.fz (f x)) ρ = some ρ1 ∧ ft ρ1 = some (p x, ρ2) ∧ (p x = false → wipeE ρ2 vs = ρ) ∧ (p x = true → ∃ ρ3, fe ρ2 = some (.vl (val x), ρ3) ∧ wipeE ρ3 vs = ρ)) :
    fCompL g ft fe vs (l.map f) [] ρ = some ((l.filter p).map val, ρ) := by
  have := comp_alf0 f p val l [] h (by simpa using hl)
  simpa using this
/-- a comprehension that changes what stands -/
theorem comp_st {g : FG} {fe : FE} {vs : List Nat} (R : Nat → Ev → List M → Prop) : ∀ (ds : List D) (k : Nat) (acc : List M) (ρ : Ev), R k ρ acc → acc.length + ds.length ≤ 100000 →
    (∀ i ρ acc d, ds[i]? = some d → R (k + i) ρ acc → ∃ ρ1 m ρ3, g (.fz d) ρ = some ρ1 ∧ fe ρ1 = some (.vl m, ρ3) ∧ R (k + i + 1) (wipeE ρ3 vs) (acc ++ [m])) →
    ∃ out ρ', fCompL g fYes fe vs ds acc ρ = some (out, ρ') ∧ R (k + ds.length) ρ' out
  | [], k, acc, ρ, h, _, _ => ⟨acc, ρ, rfl, h⟩
  | d :: ds, k, acc, ρ, h, hl, hs => by
    obtain ⟨ρ1, m, ρ3, h1, h2, h3⟩ := hs 0 ρ acc d rfl h
    simp only [List.length_cons] at hl
    obtain ⟨out, ρ', e1, e2⟩ := comp_st R ds (k + 1) (acc ++ [m]) (wipeE ρ3 vs) h3 (by simp; omega) fun i ρ acc e he hr => by
      have := hs (i + 1) ρ acc e (by simpa using he) (by rw [show k + (i + 1) = k + 1 + i by omega]; exact hr)
      rw [show k + (i + 1) + 1 = k + 1 + i + 1 by omega] at this
      exact this
    refine ⟨out, ρ', ?_, by rw [show k + (d :: ds).length = k + 1 + ds.length by simp; omega]; exact e2⟩
    unfold fCompL
    simp only [h1, fYes, h2, Option.bind_some, if_true]
    rw [if_pos (by omega), e1]
theorem enD_map {α : Type} (f : α → D) : ∀ (l : List α) (k : Nat), enD k (l.map f) = (l.zipIdx k).map fun x => .tup [.int (x.2 : Nat), f x.1]
  | [], _ => rfl
  | x :: l, k => by
    rw [List.map_cons, List.zipIdx_cons, List.map_cons, ← enD_map f l (k + 1)]; rfl
/-! sums of lists -/
theorem sAdd_tup (a b : List D) (h : a.length + b.length ≤ 100000) : ∃ o, sAdd (.fz (.tup a)) (.fz (.tup b)) = some o ∧ o.m = .fz (.tup (a ++ b)) := by
  unfold sAdd
  simp only
  rw [if_pos h]
  cases a with
  | nil => exact ⟨_, rfl, rfl⟩
  | cons x a =>
    cases b with
    | nil => exact ⟨_, rfl, by simp [O.m]⟩
    | cons y b => exact ⟨_, rfl, rfl⟩
theorem sAdd_ff (a b : List D) (h : a.length + b.length ≤ 100000) : sAdd (.fz (.lst a)) (.fz (.lst b)) = some (.nl (a ++ b)) := by
  show ((asLH (.fz (.lst a))).bind fun x => (asLH (.fz (.lst b))).bind fun y => if x.length + y.length ≤ 100000 then some (O.nl (x ++ y)) else none) = _
  simp only [asLH, Option.bind_some]
  rw [if_pos h]
theorem sAdd_fo (a b : List D) (h : a.length + b.length ≤ 100000) : sAdd (.fz (.lst a)) (.ow (b.map .fz)) = some (.nl (a ++ b)) := by
  show ((asLH (.fz (.lst a))).bind fun x => (asLH (.ow (b.map .fz))).bind fun y => if x.length + y.length ≤ 100000 then some (O.nl (x ++ y)) else none) = _
  simp only [asLH, unfz_m, Option.bind_some]
  rw [if_pos h]
theorem sAdd_of (a b : List D) (h : a.length + b.length ≤ 100000) : sAdd (.ow (a.map .fz)) (.fz (.lst b)) = some (.nl (a ++ b)) := by
  show ((asLH (.ow (a.map .fz))).bind fun x => (asLH (.fz (.lst b))).bind fun y => if x.length + y.length ≤ 100000 then some (O.nl (x ++ y)) else none) = _
  simp only [asLH, unfz_m, Option.bind_some]
  rw [if_pos h]
theorem sAdd_oo (a b : List D) (h : a.length + b.length ≤ 100000) : sAdd (.ow (a.map .fz)) (.ow (b.map .fz)) = some (.nl (a ++ b)) := by
  show ((asLH (.ow (a.map .fz))).bind fun x => (asLH (.ow (b.map .fz))).bind fun y => if x.length + y.length ≤ 100000 then some (O.nl (x ++ y)) else none) = _
  simp only [asLH, unfz_m, Option.bind_some]
  rw [if_pos h]
/-! slices -/
theorem cut_lo (xs : List D) (k : Nat) : Dv.cutD xs none (some (k : Int)) = xs.take k := by
  unfold Dv.cutD
  rw [HT.sIx_none, HT.sIx_nat, List.drop_zero, Nat.sub_zero]
  by_cases h : k ≤ xs.length
  · rw [Nat.min_eq_left h]
  · rw [Nat.min_eq_right (by omega), List.take_of_length_le (Nat.le_refl _), List.take_of_length_le (by omega)]
theorem cut_hi (xs : List D) (k : Nat) : Dv.cutD xs (some (k : Int)) none = xs.drop k := by
  unfold Dv.cutD
  rw [HT.sIx_none, HT.sIx_nat]
  by_cases h : k ≤ xs.length
  · rw [Nat.min_eq_left h, List.take_of_length_le (by simp)]
  · rw [Nat.min_eq_right (by omega), List.drop_of_length_le (Nat.le_refl _), List.drop_of_length_le (l := xs) (by omega), List.take_nil]
theorem cut_mid (xs : List D) (j k : Nat) : Dv.cutD xs (some (j : Int)) (some (k : Int)) = (xs.drop j).take (k - j) := by
  unfold Dv.cutD
  rw [HT.sIx_nat, HT.sIx_nat]
  by_cases h : j ≤ xs.length
  · have e1 : min j xs.length = j := Nat.min_eq_left h
    rw [e1]
    by_cases h2 : k ≤ xs.length
    · rw [Nat.min_eq_left h2]
    · rw [Nat.min_eq_right (by omega), List.take_of_length_le (by simp), List.take_of_length_le (by simp; omega)]
  · have e1 : min j xs.length = xs.length := Nat.min_eq_right (by omega)
    have e2 : xs.drop j = [] := List.drop_of_length_le (by omega)
    rw [e1, e2, List.drop_length, List.take_nil, List.take_nil]
theorem sl_tlo (l : List D) (k : Nat) : ∃ o, sSl (.fz (.tup l)) none (some (k : Int)) = some o ∧ o.m = .fz (.tup (l.take k)) := by
  show ∃ o, (if HT.sIx l.length 0 none = 0 ∧ HT.sIx l.length l.length (some (k : Int)) = l.length then some (O.ex (.tup l)) else some (O.nt (Dv.cutD l none (some (k : Int))))) = some o ∧ _
  split
  · rename_i h
    rw [HT.sIx_nat] at h
    exact ⟨_, rfl, by rw [List.take_of_length_le (by omega)]; rfl⟩
  · exact ⟨_, rfl, by rw [cut_lo]; rfl⟩
theorem sl_thi (l : List D) (k : Nat) : ∃ o, sSl (.fz (.tup l)) (some (k : Int)) none = some o ∧ o.m = .fz (.tup (l.drop k)) := by
  show ∃ o, (if HT.sIx l.length 0 (some (k : Int)) = 0 ∧ HT.sIx l.length l.length none = l.length then some (O.ex (.tup l)) else some (O.nt (Dv.cutD l (some (k : Int)) none))) = some o ∧ _
  split
  · rename_i h
    rw [HT.sIx_nat] at h
    refine ⟨_, rfl, ?_⟩
    have : k = 0 ∨ l.length = 0 := by omega
    rcases this with rfl | e
    · rfl
    · have : l = [] := List.length_eq_zero_iff.mp e
      subst this; simp [O.m]
  · exact ⟨_, rfl, by rw [cut_hi]; rfl⟩
theorem sl_llo (l : List D) (k : Nat) : sSl (.fz (.lst l)) none (some (k : Int)) = some (.nl (l.take k)) := by
  show some (O.nl (Dv.cutD l none (some (k : Int)))) = _; rw [cut_lo]
theorem sl_lhi (l : List D) (k : Nat) : sSl (.fz (.lst l)) (some (k : Int)) none = some (.nl (l.drop k)) := by
  show some (O.nl (Dv.cutD l (some (k : Int)) none)) = _; rw [cut_hi]
/-! sums, greatest, least of ints -/
theorem asI_l (ns : List Int) : asI (.fz (.lst (ns.map .int))) = some ns := by
  show (some (ns.map D.int)).bind dints = _
  rw [Option.bind_some, dints_map]
theorem asI_o (ns : List Int) : asI (.ow ((ns.map D.int).map .fz)) = some ns := by
  show (unfz _).bind dints = _
  rw [unfz_m, Option.bind_some, dints_map]
theorem gSum_l (ns : List Int) : gSum (.fz (.lst (ns.map .int))) = some (.ex (.int ns.sum)) := by unfold gSum; rw [asI_l]; rfl
theorem gSum_o (ns : List Int) : gSum (.ow ((ns.map D.int).map .fz)) = some (.ex (.int ns.sum)) := by unfold gSum; rw [asI_o]; rfl
theorem gMax_l {ns : List Int} {m : Int} (h : lmax ns = some m) : gMax (.fz (.lst (ns.map .int))) = some (.ex (.int m)) := by unfold gMax; rw [asI_l, Option.bind_some, h]; rfl
theorem gMin_l {ns : List Int} {m : Int} (h : lmin ns = some m) : gMin (.fz (.lst (ns.map .int))) = some (.ex (.int m)) := by unfold gMin; rw [asI_l, Option.bind_some, h]; rfl
theorem gMax_o {ns : List Int} {m : Int} (h : lmax ns = some m) : gMax (.ow ((ns.map D.int).map .fz)) = some (.ex (.int m)) := by unfold gMax; rw [asI_o, Option.bind_some, h]; rfl
theorem gMin_o {ns : List Int} {m : Int} (h : lmin ns = some m) : gMin (.ow ((ns.map D.int).map .fz)) = some (.ex (.int m)) := by unfold gMin; rw [asI_o, Option.bind_some, h]; rfl
theorem lmax_is {ns : List Int} {m : Int} (h : m ∈ ns) (h2 : ∀ y ∈ ns, y ≤ m) : lmax ns = some m := by
  cases e : lmax ns with
  | none => cases ns with | nil => simp at h | cons _ _ => cases e
  | some k =>
    obtain ⟨h3, h4⟩ := lmax_ok e
    have := h4 m h
    have := h2 k h3
    congr 1; omega
theorem lmin_is {ns : List Int} {m : Int} (h : m ∈ ns) (h2 : ∀ y ∈ ns, m ≤ y) : lmin ns = some m := by
  cases e : lmin ns with
  | none => cases ns with | nil => simp at h | cons _ _ => cases e
  | some k =>
    obtain ⟨h3, h4⟩ := lmin_ok e
    have := h4 m h
    have := h2 k h3
    congr 1; omega
/-! the place of an int among ints -/
theorem canl_ints : ∀ ns : List Int, PyData.canLayAll0 (toPs (ns.map .int)) = true
  | [] => by simp [toPs, PyData.canLayAll0]
  | i :: ns => by
    have : toPs ((i :: ns).map .int) = PyData.int i :: toPs (ns.map .int) := rfl
    rw [this]
    simp [PyData.canLayAll0, PyData.canLay0, canl_ints ns]
theorem shp_ints (ns : List Int) : SeqAt.shaped (.list (toPs (ns.map .int))) = true := by
  unfold SeqAt.shaped
  simp [PyData.canLay0, canl_ints, PyData.depth, depth_ints]
theorem shp_int (i : Int) : SeqAt.shaped (toP (.int i)) = true := by
  unfold SeqAt.shaped
  show (PyData.canLay0 (.int i) && decide ((PyData.int i).depth ≤ 64)) = true
  simp [PyData.canLay0, PyData.depth]
theorem idxD_ints : ∀ (ns : List Int) (g : Int) (j : Nat), ns[j]? = some g → (∀ m y, m < j → ns[m]? = some y → y ≠ g) → idxD (.int g) (ns.map .int) = some j
  | [], g, j, h, _ => by simp at h
  | x :: ns, g, 0, h, _ => by
    simp at h
    subst h
    rw [List.map_cons, idxD, deq_int]
    simp
  | x :: ns, g, j + 1, h, hn => by
    have hx : x ≠ g := hn 0 x (by omega) rfl
    rw [List.map_cons, idxD, deq_int]
    simp only [hx, decide_false, Bool.false_eq_true, if_false]
    rw [idxD_ints ns g j (by simpa using h) fun m y hm hy => hn (m + 1) y (by omega) (by simpa using hy)]
    rfl
theorem sIdx_ints {m : M} {ns : List Int} {g : Int} {j : Nat} (hm : asL m = some (ns.map .int)) (h : ns[j]? = some g) (hn : ∀ m y, m < j → ns[m]? = some y → y ≠ g) : sIdx m (.fz (.int g)) = some (.ex (.int (j : Nat))) := by
  unfold sIdx
  rw [hm, Option.bind_some]
  have e1 : nd (M.fz (.int g)).frz = true := rfl
  have e2 : SeqAt.shaped (toP (M.fz (.int g)).frz) = true := shp_int g
  rw [if_pos (by rw [nds_ints, e1, shp_ints, e2]; rfl)]
  show (idxD (.int g) (ns.map .int)).map _ = _
  rw [idxD_ints ns g j h hn]; rfl
/-! comprehensions with two fors -/
theorem comp_acc {g : FG} {ft : FT} {fe : FE} {vs : List Nat} {α : Type} {ρ : Ev} (f : α → D) (p : α → Bool) (val : α → M) (l : List α) (acc : List M) (hl : acc.length + l.length ≤ 100000)
    (h : ∀ x ∈ l, ∃ ρ1 ρ2, g (.fz (f x)) ρ = some ρ1 ∧ ft ρ1 = some (p x, ρ2) ∧ (p x = false → wipeE ρ2 vs = ρ) ∧ (p x = true → ∃ ρ3, fe ρ2 = some (.vl (val x), ρ3) ∧ wipeE ρ3 vs = ρ)) :
    fCompL g ft fe vs (l.map f) acc ρ = some (acc ++ (l.filter p).map val, ρ) := comp_alf0 f p val l acc h hl
theorem comp2_al0 {α : Type} {g : FG} {ft : FT} {fi1 : FI} {g1 : FG} {ft1 : FT} {fe : FE} {vs vs1 : List Nat} {ρ : Ev} (f : α → D) (p : α → Bool) (r : α → List M) : ∀ (l : List α) (acc : List M),
    (∀ x ∈ l, ∃ ρ1 ρ2, g (.fz (f x)) ρ = some ρ1 ∧ ft ρ1 = some (p x, ρ2) ∧ (p x = false → wipeE ρ2 vs = ρ) ∧ (p x = true → ∃ ds ρ3, fi1 ρ2 = some (ds, ρ3) ∧ ∀ acc, acc.length + (r x).length ≤ 100000 → ∃ ρ4, fCompL g1 ft1 fe vs1 ds acc (wipeE ρ3 vs1) = some (acc ++ r x, ρ4) ∧ wipeE ρ4 vs = ρ)) →
    acc.length + ((l.filter p).flatMap r).length ≤ 100000 → fComp2L g ft fi1 g1 ft1 fe vs vs1 (l.map f) acc ρ = some (acc ++ (l.filter p).flatMap r, ρ)
  | [], acc, _, _ => by simp [fComp2L]
  | x :: l, acc, h, hl => by
    obtain ⟨ρ1, ρ2, h1, h2, h3, h4⟩ := h x List.mem_cons_self
    rw [List.map_cons]
    unfold fComp2L
    simp only [h1, h2, Option.bind_some]
    cases hp : p x with
    | false =>
      rw [List.filter_cons_of_neg (by simp [hp])] at hl ⊢
      simp only [Bool.false_eq_true, if_false, h3 hp]
      exact comp2_al0 f p r l acc (fun e he => h e (List.mem_cons_of_mem _ he)) hl
    | true =>
      obtain ⟨ds, ρ3, h5, h6⟩ := h4 hp
      rw [List.filter_cons_of_pos hp, List.flatMap_cons] at hl ⊢
      rw [List.length_append] at hl
      obtain ⟨ρ4, h7, h8⟩ := h6 acc (by omega)
      simp only [if_true, h5, Option.bind_some, h7, h8]
      rw [comp2_al0 f p r l (acc ++ r x) (fun e he => h e (List.mem_cons_of_mem _ he)) (by rw [List.length_append]; omega), List.append_assoc]
theorem comp2_al {α : Type} {g : FG} {ft : FT} {fi1 : FI} {g1 : FG} {ft1 : FT} {fe : FE} {vs vs1 : List Nat} {ρ : Ev} (f : α → D) (p : α → Bool) (r : α → List M) (l : List α)
    (h : ∀ x ∈ l, ∃ ρ1 ρ2, g (.fz (f x)) ρ = some ρ1 ∧ ft ρ1 = some (p x, ρ2) ∧ (p x = false → wipeE ρ2 vs = ρ) ∧ (p x = true → ∃ ds ρ3, fi1 ρ2 = some (ds, ρ3) ∧ ∀ acc, acc.length + (r x).length ≤ 100000 → ∃ ρ4, fCompL g1 ft1 fe vs1 ds acc (wipeE ρ3 vs1) = some (acc ++ r x, ρ4) ∧ wipeE ρ4 vs = ρ))
    (hl : ((l.filter p).flatMap r).length ≤ 100000) : fComp2L g ft fi1 g1 ft1 fe vs vs1 (l.map f) [] ρ = some ((l.filter p).flatMap r, ρ) := by
  have := comp2_al0 (fi1 := fi1) (g1 := g1) (ft1 := ft1) (fe := fe) (vs1 := vs1) f p r l [] h (by simpa using hl)
  simpa using this
end Dv

set_option linter.all false
set_option maxRecDepth 100000
set_option maxHeartbeats 1000000
/-! binary trees: plain laws (k28 .. k31 may share them) -/
inductive Bt where
  | nil | nd (l r : Bt)
namespace Bt
def sz : Bt → Nat
  | .nil => 0
  | .nd l r => 1 + l.sz + r.sz
def dep : Bt → Nat
  | .nil => 0
  | .nd l r => Nat.max l.dep r.dep + 1
theorem dep_le (t : Bt) : t.dep ≤ t.sz := by
  induction t with
  | nil => exact Nat.le_refl _
  | nd l r hl hr => simp only [dep, sz, Nat.max_def]; split <;> omega
/-- the height -/
def ht : Bt → Nat
  | .nil => 0
  | .nd l r => 1 + max l.ht r.ht
/-- the shortest way -/
def lo : Bt → Nat
  | .nil => 0
  | .nd l r => 1 + min l.lo r.lo
theorem lo_ht (t : Bt) : t.lo ≤ t.ht := by
  induction t with
  | nil => exact Nat.le_refl _
  | nd l r hl hr => simp only [lo, ht]; omega
theorem ht_sz (t : Bt) : t.ht ≤ t.sz := by
  induction t with
  | nil => exact Nat.le_refl _
  | nd l r hl hr => simp only [ht, sz]; omega
def rev : Bt → Bt
  | .nil => .nil
  | .nd l r => .nd r.rev l.rev
theorem rev_sz (t : Bt) : t.rev.sz = t.sz := by
  induction t with
  | nil => rfl
  | nd l r hl hr => simp only [rev, sz]; omega
theorem rev_ht (t : Bt) : t.rev.ht = t.ht := by
  induction t with
  | nil => rfl
  | nd l r hl hr => simp only [rev, ht, hl, hr]; omega
theorem rev_lo (t : Bt) : t.rev.lo = t.lo := by
  induction t with
  | nil => rfl
  | nd l r hl hr => simp only [rev, lo, hl, hr]; omega
/-- the subtrees in inorder -/
def nds : Bt → List Bt
  | .nil => []
  | .nd l r => l.nds ++ .nd l r :: r.nds
theorem nds_len (t : Bt) : t.nds.length = t.sz := by
  induction t with
  | nil => rfl
  | nd l r hl hr => simp only [nds, sz, List.length_append, List.length_cons, hl, hr]; omega
theorem nds_nd (t : Bt) : ∀ s ∈ t.nds, ∃ l r, s = .nd l r := by
  induction t with
  | nil => intro s h; simp [nds] at h
  | nd l r hl hr =>
    intro s h
    simp only [nds, List.mem_append, List.mem_cons] at h
    rcases h with h | h | h
    · exact hl s h
    · exact ⟨l, r, h⟩
    · exact hr s h
theorem nds_sz (t : Bt) : ∀ s ∈ t.nds, s.sz ≤ t.sz := by
  induction t with
  | nil => intro s h; simp [nds] at h
  | nd l r hl hr =>
    intro s h
    simp only [nds, List.mem_append, List.mem_cons] at h
    simp only [sz]
    rcases h with h | h | h
    · have := hl s h; omega
    · rw [h]; simp only [sz]; omega
    · have := hr s h; omega
def lft : Bt → Bt
  | .nil => .nil
  | .nd l _ => l
def rgt : Bt → Bt
  | .nil => .nil
  | .nd _ r => r
/-- the stretches: number, left, right -/
def str : Bt → Nat → List (Nat × Bt × Bt)
  | .nil, _ => []
  | .nd l r, f => l.str f ++ (f + l.sz, l, r) :: r.str (f + l.sz + 1)
theorem str_zip (t : Bt) : ∀ f, t.str f = (t.nds.zipIdx f).map fun x => (x.2, x.1.lft, x.1.rgt) := by
  induction t with
  | nil => intro f; rfl
  | nd l r hl hr =>
    intro f
    simp only [str, nds, List.zipIdx_append, List.map_append, List.zipIdx_cons, List.map_cons, hl, hr, nds_len, lft, rgt]
theorem str_len (t : Bt) (f : Nat) : (t.str f).length = t.sz := by rw [str_zip]; simp [nds_len]
theorem str_sz (t : Bt) : ∀ (f : Nat), ∀ x ∈ t.str f, x.2.1.sz ≤ t.sz ∧ x.2.2.sz ≤ t.sz ∧ f ≤ x.1 ∧ x.1 < f + t.sz := by
  induction t with
  | nil => intro f x h; simp [str] at h
  | nd l r hl hr =>
    intro f x h
    simp only [str, List.mem_append, List.mem_cons] at h
    simp only [sz]
    rcases h with h | h | h
    · have := hl f x h; omega
    · rw [h]; simp only; omega
    · have := hr _ x h; omega
/-! the first one with a mark -/
def fst (p : Bt → Bool) (t : Bt) : Option Nat := t.nds.findIdx? p
theorem find_zip (p : Bt → Bool) : ∀ (l : List Bt) (f : Nat), ((l.zipIdx f).find? fun x => p x.1).map (·.2) = (l.findIdx? p).map (· + f)
  | [], f => rfl
  | a :: l, f => by
    rw [List.zipIdx_cons, List.find?_cons, List.findIdx?_cons]
    cases h : p a with
    | true => simp
    | false =>
      simp only [find_zip p l (f + 1), Bool.false_eq_true, if_false, Option.map_map]
      congr 1
      funext x
      simp [Function.comp]; omega
end Bt

set_option linter.all false
set_option maxRecDepth 100000
set_option maxHeartbeats 1000000
/-! red and black: plain laws -/
namespace Bt
/-- a node too high for its shortest way -/
def bad (t : Bt) : Bool := decide (2 * t.lo < t.ht)
def okc : Bt → Prop
  | .nil => True
  | .nd l r => l.okc ∧ r.okc ∧ (Bt.nd l r).ht ≤ 2 * (Bt.nd l r).lo
theorem okc_iff (t : Bt) : t.okc ↔ ∀ s ∈ t.nds, bad s = false := by
  induction t with
  | nil => simp [okc, nds]
  | nd l r hl hr =>
    simp only [okc, hl, hr, nds, List.mem_append, List.mem_cons]
    constructor
    · rintro ⟨h1, h2, h3⟩ s (h | h | h)
      · exact h1 s h
      · rw [h]; unfold bad; simp only [decide_eq_false_iff_not]; omega
      · exact h2 s h
    · intro h
      refine ⟨fun s hs => h s (.inl hs), fun s hs => h s (.inr (.inr hs)), ?_⟩
      have := h (.nd l r) (.inr (.inl rfl))
      unfold bad at this
      simp only [decide_eq_false_iff_not] at this
      omega
def flt (t : Bt) : Option Nat := fst bad t
theorem flt_none (t : Bt) : flt t = none ↔ t.okc := by
  rw [okc_iff]
  unfold flt fst
  rw [List.findIdx?_eq_none_iff]
theorem okc_rev (t : Bt) : t.rev.okc ↔ t.okc := by
  induction t with
  | nil => exact Iff.rfl
  | nd l r hl hr =>
    have h1 := rev_ht (.nd l r)
    have h2 := rev_lo (.nd l r)
    simp only [rev] at h1 h2
    simp only [rev, okc, hl, hr, h1, h2]
    exact ⟨fun ⟨a, b, c⟩ => ⟨b, a, c⟩, fun ⟨a, b, c⟩ => ⟨b, a, c⟩⟩
/-- heights of both sides apart by more than 1 -/
def une (t : Bt) : Bool := decide (t.lft.ht + 1 < t.rgt.ht ∨ t.rgt.ht + 1 < t.lft.ht)
theorem even_ok (t : Bt) (h : ∀ s ∈ t.nds, une s = false) : t.okc := by
  induction t with
  | nil => trivial
  | nd l r hl hr =>
    have h1 : l.okc := hl fun s hs => h s (by simp [nds, hs])
    have h2 : r.okc := hr fun s hs => h s (by simp [nds, hs])
    have h3 := h (.nd l r) (by simp [nds])
    have h3 : ¬ (l.ht + 1 < r.ht ∨ r.ht + 1 < l.ht) := of_decide_eq_false h3
    refine ⟨h1, h2, ?_⟩
    have k1 : l.ht ≤ 2 * l.lo := by
      cases l with
      | nil => simp [ht]
      | nd a b => exact h1.2.2
    have k2 : r.ht ≤ 2 * r.lo := by
      cases r with
      | nil => simp [ht]
      | nd a b => exact h2.2.2
    have k3 : l.ht ≤ r.ht + 1 ∧ r.ht ≤ l.ht + 1 := by omega
    clear h3 hl hr h h1 h2
    simp only [ht, lo]
    rcases Nat.le_total l.ht r.ht with a | a <;> rcases Nat.le_total l.lo r.lo with b | b
    · rw [Nat.max_eq_right a, Nat.min_eq_left b]; omega
    · rw [Nat.max_eq_right a, Nat.min_eq_right b]; omega
    · rw [Nat.max_eq_left a, Nat.min_eq_left b]; omega
    · rw [Nat.max_eq_left a, Nat.min_eq_right b]; omega
theorem okc_ht {t : Bt} (h : t.okc) : t.ht ≤ 2 * t.lo := by
  cases t with
  | nil => simp [ht]
  | nd a b => exact h.2.2
/-! colors: true is black -/
/-- the coloring with n black nodes on every way -/
def col : Bt → Nat → Bool → List Bool
  | .nil, _, _ => []
  | .nd l r, n, c =>
    let k := n - (if c then 1 else 0)
    col l k (decide (l.ht ≤ 2 * k)) ++ c :: col r k (decide (r.ht ≤ 2 * k))
theorem col_len (t : Bt) : ∀ n c, (col t n c).length = t.sz := by
  induction t with
  | nil => intro n c; rfl
  | nd l r hl hr => intro n c; simp only [col, sz, List.length_append, List.length_cons, hl, hr]; omega
/-- black nodes on every way, by the law -/
def lb (t : Bt) (cs : Nat → Bool) (f : Nat) (par : Bool) : Option Nat :=
  match t with
  | .nil => some 0
  | .nd l r =>
    let c := cs (f + l.sz)
    if c = false ∧ par = false then none else
    match lb l cs f c, lb r cs (f + l.sz + 1) c with
    | some a, some b => if a = b then some (a + (if c then 1 else 0)) else none
    | _, _ => none
/-- by the program: black nodes alone -/
def cd (t : Bt) (cs : Nat → Bool) (f : Nat) : Option Nat :=
  match t with
  | .nil => some 0
  | .nd l r =>
    match cd l cs f, cd r cs (f + l.sz + 1) with
    | some a, some b => if a = b then some (a + (if cs (f + l.sz) then 1 else 0)) else none
    | _, _ => none
/-- the number of the root -/
def rt (t : Bt) (f : Nat) : Nat := f + t.lft.sz
def prs (x : Nat × Bt × Bt) : List (Nat × Nat) :=
  (match x.2.1 with | .nil => [] | .nd _ b => [(x.1, x.1 - 1 - b.sz)]) ++ (match x.2.2 with | .nil => [] | .nd a _ => [(x.1, x.1 + 1 + a.sz)])
/-- two red ones joined -/
def rp (t : Bt) (cs : Nat → Bool) (f : Nat) : Bool := ((t.str f).flatMap prs).any fun x => !cs x.1 && !cs x.2
def rr (t : Bt) (cs : Nat → Bool) (f : Nat) (par : Bool) : Bool := match t with
  | .nil => false
  | .nd l _ => !par && !cs (f + l.sz)
theorem rp_nd (l r : Bt) (cs : Nat → Bool) (f : Nat) : rp (.nd l r) cs f = (rp l cs f || (rr l cs f (cs (f + l.sz)) || rr r cs (f + l.sz + 1) (cs (f + l.sz))) || rp r cs (f + l.sz + 1)) := by
  unfold rp
  simp only [str, List.flatMap_append, List.flatMap_cons, List.any_append]
  have e : (prs (f + l.sz, l, r)).any (fun x => !cs x.1 && !cs x.2) = (rr l cs f (cs (f + l.sz)) || rr r cs (f + l.sz + 1) (cs (f + l.sz))) := by
    unfold prs
    simp only [List.any_append]
    congr 1
    · cases l with
      | nil => rfl
      | nd a b =>
        simp only [rr, List.any_cons, List.any_nil, Bool.or_false, sz]
        congr 2; congr 1; omega
    · cases r with
      | nil => rfl
      | nd a b =>
        simp only [rr, List.any_cons, List.any_nil, Bool.or_false]
  rw [e]
  simp only [Bool.or_assoc]
theorem lb_cd (t : Bt) : ∀ (cs : Nat → Bool) (f : Nat) (par : Bool), lb t cs f par = if (rr t cs f par || rp t cs f) = true then none else cd t cs f := by
  induction t with
  | nil => intro cs f par; simp [lb, cd, rr, rp, str]
  | nd l r hl hr =>
    intro cs f par
    rw [rp_nd]
    simp only [lb, cd, hl, hr]
    generalize hc : cs (f + l.sz) = c
    have e1 : rr (.nd l r) cs f par = (!par && !c) := by simp [rr, hc]
    rw [e1]
    cases c <;> cases par <;> simp only [Bool.not_true, Bool.not_false, Bool.and_self, Bool.and_true, Bool.and_false, Bool.true_and, Bool.false_and, Bool.true_or, Bool.false_or, and_self, if_true, Bool.true_eq_false, Bool.false_eq_true, and_false, false_and, if_false, reduceCtorEq]
    all_goals
      generalize rr l cs f _ = A
      generalize rr r cs _ _ = B
      generalize rp l cs f = C
      generalize rp r cs _ = D
      generalize cd l cs f = x
      generalize cd r cs _ = y
      cases A <;> cases B <;> cases C <;> cases D <;> cases x <;> cases y <;> simp
/-! the coloring holds -/
theorem lb_shift (t : Bt) : ∀ (cs ds : Nat → Bool) (f g : Nat) (par : Bool), (∀ i, i < t.sz → cs (f + i) = ds (g + i)) → lb t cs f par = lb t ds g par := by
  induction t with
  | nil => intro cs ds f g par h; rfl
  | nd l r hl hr =>
    intro cs ds f g par h
    simp only [sz] at h
    simp only [lb]
    rw [h l.sz (by omega), hl cs ds f g _ fun i hi => h i (by omega), hr cs ds (f + l.sz + 1) (g + l.sz + 1) _ fun i hi => by
      have := h (l.sz + 1 + i) (by omega)
      rw [show f + l.sz + 1 + i = f + (l.sz + 1 + i) by omega, show g + l.sz + 1 + i = g + (l.sz + 1 + i) by omega]; exact this]
theorem col_ok (t : Bt) : ∀ (n : Nat) (c par : Bool), t.okc → (c = true → t.ht ≤ 2 * n ∧ n ≤ t.lo) → (c = false → t ≠ .nil ∧ t.ht ≤ 2 * n + 1 ∧ n + 1 ≤ t.lo ∧ par = true) →
    lb t (fun i => (col t n c).getD i true) 0 par = some n := by
  induction t with
  | nil =>
    intro n c par _ h1 h2
    cases c with
    | false => exact absurd rfl (h2 rfl).1
    | true => have := (h1 rfl).2; simp only [lo] at this; simp only [lb]; congr 1; omega
  | nd l r hl hr =>
    intro n c par ho h1 h2
    obtain ⟨ol, orr, oh⟩ := ho
    have kl := okc_ht ol
    have kr := okc_ht orr
    simp only [ht, lo] at h1 h2 oh
    have hlen : (col l (n - (if c then 1 else 0)) (decide (l.ht ≤ 2 * (n - (if c then 1 else 0))))).length = l.sz := col_len _ _ _
    generalize hk : n - (if c = true then 1 else 0) = k at *
    have hcn : (if c = true then 1 else 0) + k = n := by
      cases c with
      | true => have := h1 rfl; simp at hk ⊢; omega
      | false => simp at hk ⊢; omega
    have hroot : (col (.nd l r) n c).getD (0 + l.sz) true = c := by
      simp only [col, hk, Nat.zero_add]
      rw [List.getD_eq_getElem?_getD, List.getElem?_append_right (by omega), hlen]
      simp
    have side : ∀ s : Bt, s.okc → s.ht ≤ 2 * s.lo → k ≤ s.lo → s.ht ≤ 2 * k + 1 → (c = false → s.ht ≤ 2 * k) →
        ((decide (s.ht ≤ 2 * k)) = true → s.ht ≤ 2 * k ∧ k ≤ s.lo) ∧ ((decide (s.ht ≤ 2 * k)) = false → s ≠ .nil ∧ s.ht ≤ 2 * k + 1 ∧ k + 1 ≤ s.lo ∧ c = true) := by
      intro s so sh sk s1 s2
      constructor
      · intro h; exact ⟨by simpa using h, sk⟩
      · intro h
        simp only [decide_eq_false_iff_not] at h
        refine ⟨?_, s1, by omega, ?_⟩
        · intro e; rw [e] at h; simp [ht] at h
        · cases c with
          | true => rfl
          | false => exact absurd (s2 rfl) h
    have bl : k ≤ l.lo ∧ l.ht ≤ 2 * k + 1 ∧ (c = false → l.ht ≤ 2 * k) := by
      cases c with
      | true => have := h1 rfl; simp at hcn; refine ⟨by omega, by omega, by simp⟩
      | false => have := h2 rfl; simp at hcn; refine ⟨by omega, by omega, fun _ => by omega⟩
    have br : k ≤ r.lo ∧ r.ht ≤ 2 * k + 1 ∧ (c = false → r.ht ≤ 2 * k) := by
      cases c with
      | true => have := h1 rfl; simp at hcn; refine ⟨by omega, by omega, by simp⟩
      | false => have := h2 rfl; simp at hcn; refine ⟨by omega, by omega, fun _ => by omega⟩
    obtain ⟨a1, a2⟩ := side l ol kl bl.1 bl.2.1 bl.2.2
    obtain ⟨b1, b2⟩ := side r orr kr br.1 br.2.1 br.2.2
    have e1 := hl k (decide (l.ht ≤ 2 * k)) c ol a1 a2
    have e2 := hr k (decide (r.ht ≤ 2 * k)) c orr b1 b2
    have hp : ¬ (c = false ∧ par = false) := by
      rintro ⟨rfl, rfl⟩
      exact absurd (h2 rfl).2.2.2 (by simp)
    have f1 : lb l (fun i => (col (.nd l r) n c).getD i true) 0 c = some k := by
      rw [← e1]
      refine lb_shift l _ _ 0 0 c fun i hi => ?_
      simp only [Nat.zero_add, col, hk]
      rw [List.getD_eq_getElem?_getD, List.getElem?_append_left (by omega), ← List.getD_eq_getElem?_getD]
    have f2 : lb r (fun i => (col (.nd l r) n c).getD i true) (0 + l.sz + 1) c = some k := by
      rw [← e2]
      refine lb_shift r _ _ _ 0 c fun i hi => ?_
      simp only [Nat.zero_add, col, hk]
      rw [List.getD_eq_getElem?_getD, List.getElem?_append_right (by omega), hlen, show l.sz + 1 + i - l.sz = i + 1 by omega, List.getElem?_cons_succ, ← List.getD_eq_getElem?_getD]
    have step : ∀ (cs : Nat → Bool) (x : Bool), cs (0 + l.sz) = x → lb (.nd l r) cs 0 par = if x = false ∧ par = false then none else
      match lb l cs 0 x, lb r cs (0 + l.sz + 1) x with
      | some a, some b => if a = b then some (a + (if x then 1 else 0)) else none
      | _, _ => none := fun cs x h => by subst h; rfl
    rw [step _ c hroot, if_neg hp, f1, f2]
    simp only [if_true]
    congr 1
    omega
/-- what the coloring with n black nodes asks -/
def Cn (t : Bt) (n : Nat) (c par : Bool) : Prop := t.okc ∧ (c = true → t.ht ≤ 2 * n ∧ n ≤ t.lo) ∧ (c = false → t ≠ .nil ∧ t.ht ≤ 2 * n + 1 ∧ n + 1 ≤ t.lo ∧ par = true)
theorem Cn_side {l r : Bt} {n : Nat} {c par : Bool} (h : Cn (.nd l r) n c par) : ∃ k, n = k + (if c then 1 else 0) ∧ Cn l k (decide (l.ht ≤ 2 * k)) c ∧ Cn r k (decide (r.ht ≤ 2 * k)) c := by
  obtain ⟨⟨ol, orr, oh⟩, h1, h2⟩ := h
  have kl := okc_ht ol
  have kr := okc_ht orr
  simp only [ht, lo] at h1 h2 oh
  have side : ∀ (k : Nat) (s : Bt), s.okc → s.ht ≤ 2 * s.lo → k ≤ s.lo → s.ht ≤ 2 * k + 1 → (c = false → s.ht ≤ 2 * k) → Cn s k (decide (s.ht ≤ 2 * k)) c := by
    intro k s so sh sk s1 s2
    refine ⟨so, fun h => ⟨by simpa using h, sk⟩, fun h => ?_⟩
    have h := of_decide_eq_false h
    refine ⟨fun e => ?_, s1, by omega, ?_⟩
    · rw [e] at h; simp [ht] at h
    · cases c with
      | true => rfl
      | false => exact absurd (s2 rfl) h
  cases c with
  | true =>
    have a := h1 rfl
    refine ⟨n - 1, by simp; omega, side _ l ol kl (by omega) (by omega) (by simp), side _ r orr kr (by omega) (by omega) (by simp)⟩
  | false =>
    have a := h2 rfl
    refine ⟨n, by simp, side _ l ol kl (by omega) (by omega) (fun _ => by omega), side _ r orr kr (by omega) (by omega) (fun _ => by omega)⟩
theorem col_nd (l r : Bt) (k : Nat) (c : Bool) : col (.nd l r) (k + (if c then 1 else 0)) c = col l k (decide (l.ht ≤ 2 * k)) ++ c :: col r k (decide (r.ht ≤ 2 * k)) := by
  simp only [col, Nat.add_sub_cancel]
theorem Cn_top {t : Bt} {n : Nat} (h : t.okc) (h1 : (t.ht + 1) / 2 ≤ n) (h2 : n ≤ t.lo) : Cn t n true true := ⟨h, fun _ => ⟨by omega, h2⟩, by simp⟩
theorem cd_shift (t : Bt) : ∀ (cs ds : Nat → Bool) (f g : Nat), (∀ i, i < t.sz → cs (f + i) = ds (g + i)) → cd t cs f = cd t ds g := by
  induction t with
  | nil => intro cs ds f g h; rfl
  | nd l r hl hr =>
    intro cs ds f g h
    simp only [sz] at h
    simp only [cd]
    rw [h l.sz (by omega), hl cs ds f g fun i hi => h i (by omega), hr cs ds (f + l.sz + 1) (g + l.sz + 1) fun i hi => by
      have := h (l.sz + 1 + i) (by omega)
      rw [show f + l.sz + 1 + i = f + (l.sz + 1 + i) by omega, show g + l.sz + 1 + i = g + (l.sz + 1 + i) by omega]; exact this]
/-! rows of children -/
def nn0 : Bt → Bool
  | .nil => false
  | .nd _ _ => true
def kid : Bt → List Bt
  | .nil => []
  | .nd l r => [l, r]
def mxh : List Bt → Nat
  | [] => 0
  | w :: ws => max w.ht (mxh ws)
theorem mxh_app (a b : List Bt) : mxh (a ++ b) = max (mxh a) (mxh b) := by
  induction a with
  | nil => simp [mxh]
  | cons w a ih => rw [List.cons_append, mxh, mxh, ih, Nat.max_assoc]
def kids (ws : List Bt) : List Bt := (ws.filter nn0).flatMap kid
theorem kids_cons (w : Bt) (ws : List Bt) : kids (w :: ws) = kid w ++ kids ws := by
  unfold kids
  rw [List.filter_cons]
  cases w with
  | nil => simp [nn0, kid]
  | nd l r => simp [nn0, List.flatMap_cons]
theorem mxh_kids (ws : List Bt) : mxh (kids ws) = mxh ws - 1 := by
  induction ws with
  | nil => rfl
  | cons w ws ih =>
    rw [kids_cons, mxh_app, ih]
    cases w with
    | nil => simp [kid, mxh, ht]
    | nd l r =>
      simp only [kid, mxh, ht, Nat.max_zero]
      rcases Nat.le_total (1 + max l.ht r.ht) (mxh ws) with a | a
      · rw [Nat.max_eq_right a, Nat.max_eq_right (by omega)]
      · rw [Nat.max_eq_left a, Nat.max_eq_left (by omega)]; omega
theorem nil_mxh (ws : List Bt) : (ws.filter nn0).isEmpty = decide (mxh ws = 0) := by
  induction ws with
  | nil => rfl
  | cons w ws ih =>
    rw [List.filter_cons]
    cases w with
    | nil => simp only [nn0, mxh, ht, Bool.false_eq_true, if_false, ih, Nat.zero_max]
    | nd l r =>
      have : mxh (.nd l r :: ws) ≠ 0 := by
        simp only [mxh, ht]
        intro h
        have := Nat.le_max_left (1 + max l.ht r.ht) (mxh ws)
        omega
      simp [nn0, this]
/-- both sides put together -/
def jn (c : Bool) : Option Nat → Option Nat → Option Nat
  | some a, some b => if a = b then some (a + (if c then 1 else 0)) else none
  | _, _ => none
theorem jn_n (c : Bool) (y : Option Nat) : jn c none y = none := rfl
theorem jn_s (c : Bool) (a : Nat) (y : Option Nat) : jn c (some a) y = if some a = y then some (a + (if c then 1 else 0)) else none := by
  cases y with
  | none => simp [jn]
  | some b => simp [jn]
theorem lb_nd (l r : Bt) (cs : Nat → Bool) (f : Nat) (par : Bool) : lb (.nd l r) cs f par = if cs (f + l.sz) = false ∧ par = false then none else jn (cs (f + l.sz)) (lb l cs f (cs (f + l.sz))) (lb r cs (f + l.sz + 1) (cs (f + l.sz))) := by
  simp only [lb]
  generalize lb l cs f (cs (f + l.sz)) = x
  generalize lb r cs (f + l.sz + 1) (cs (f + l.sz)) = y
  cases x <;> cases y <;> rfl
theorem cd_nd (l r : Bt) (cs : Nat → Bool) (f : Nat) : cd (.nd l r) cs f = jn (cs (f + l.sz)) (cd l cs f) (cd r cs (f + l.sz + 1)) := by
  simp only [cd]
  generalize cd l cs f = x
  generalize cd r cs (f + l.sz + 1) = y
  cases x <;> cases y <;> rfl
end Bt

set_option Elab.async false
set_option linter.all false
set_option maxRecDepth 100000
set_option maxHeartbeats 4000000
namespace Lk29
open PySem PySem.Spec PyProof.Rows L2 Dv
def topS (i : Nat) : Stmt := PySem.Challenge.pw_treebench_k29_black_numbers_by_ways.main.body.getD i (.Pass ⟨0, 0, 0, 0⟩)
abbrev s__law_box : Stmt := topS 41
abbrev s__law_take : Stmt := topS 42
abbrev s__law_full : Stmt := topS 54
abbrev s__law_comb : Stmt := topS 45
abbrev s__law_binary : Stmt := topS 44
abbrev s__law_great : Stmt := topS 55
abbrev s__law_cell : Stmt := topS 40
abbrev s_is_integer : Stmt := topS 5
abbrev s_is_between : Stmt := topS 6
abbrev s_choose : Stmt := topS 7
abbrev s_catalan : Stmt := topS 8
abbrev s_tree_at : Stmt := topS 19
abbrev s_binaries : Stmt := topS 20
abbrev s_is_binary : Stmt := topS 12
abbrev s_check_binary : Stmt := topS 13
abbrev s_turned : Stmt := topS 17
abbrev s_binary_mirror : Stmt := topS 18
abbrev s__law_ways : Stmt := topS 47
abbrev s__law_nodes : Stmt := topS 48
abbrev s_size_of : Stmt := topS 14
abbrev s_stretches_of : Stmt := topS 22
abbrev s_height_in : Stmt := topS 23
abbrev s_shortest_in : Stmt := topS 28
abbrev s_fault_of : Stmt := topS 29
abbrev s_color_break : Stmt := topS 30
abbrev s_numbers_of : Stmt := topS 32
abbrev s_black_heights : Stmt := topS 34
abbrev s__law_same : Stmt := topS 43
abbrev s_height_of : Stmt := topS 15
abbrev s_binary_height : Stmt := topS 16
abbrev s_colored : Stmt := topS 31
abbrev s_coloring_of : Stmt := topS 33
abbrev s__law_size : Stmt := topS 46
abbrev s__law_blacks : Stmt := topS 49
abbrev s__law_shown : Stmt := topS 50
abbrev s_nodes_in : Stmt := topS 36
abbrev s_has_red_pair : Stmt := topS 37
abbrev s_count_down : Stmt := topS 35
abbrev s_shows_coloring : Stmt := topS 38
abbrev s_uneven_node : Stmt := topS 24
abbrev s__law_uneven : Stmt := topS 51
abbrev s__law_tree_right : Stmt := topS 52
abbrev s__law_colors_right : Stmt := topS 53
abbrev s_law : Stmt := topS 56
/-- what the top has left -/
structure Txt (K : PySem.W.Frag) (mg : Str → Option Value) : Prop where
  d__law_box : Df K mg "_law_box" s__law_box
  d__law_take : Df K mg "_law_take" s__law_take
  d__law_full : Df K mg "_law_full" s__law_full
  d__law_comb : Df K mg "_law_comb" s__law_comb
  d__law_binary : Df K mg "_law_binary" s__law_binary
  d__law_great : Df K mg "_law_great" s__law_great
  d__law_cell : Df K mg "_law_cell" s__law_cell
  d_is_integer : Df K mg "is_integer" s_is_integer
  d_is_between : Df K mg "is_between" s_is_between
  d_choose : Df K mg "choose" s_choose
  d_catalan : Df K mg "catalan" s_catalan
  d_tree_at : Df K mg "tree_at" s_tree_at
  d_binaries : Df K mg "binaries" s_binaries
  d_is_binary : Df K mg "is_binary" s_is_binary
  d_check_binary : Df K mg "check_binary" s_check_binary
  d_turned : Df K mg "turned" s_turned
  d_binary_mirror : Df K mg "binary_mirror" s_binary_mirror
  d__law_ways : Df K mg "_law_ways" s__law_ways
  d__law_nodes : Df K mg "_law_nodes" s__law_nodes
  d_size_of : Df K mg "size_of" s_size_of
  d_stretches_of : Df K mg "stretches_of" s_stretches_of
  d_height_in : Df K mg "height_in" s_height_in
  d_shortest_in : Df K mg "shortest_in" s_shortest_in
  d_fault_of : Df K mg "fault_of" s_fault_of
  d_color_break : Df K mg "color_break" s_color_break
  d_numbers_of : Df K mg "numbers_of" s_numbers_of
  d_black_heights : Df K mg "black_heights" s_black_heights
  d__law_same : Df K mg "_law_same" s__law_same
  d_height_of : Df K mg "height_of" s_height_of
  d_binary_height : Df K mg "binary_height" s_binary_height
  d_colored : Df K mg "colored" s_colored
  d_coloring_of : Df K mg "coloring_of" s_coloring_of
  d__law_size : Df K mg "_law_size" s__law_size
  d__law_blacks : Df K mg "_law_blacks" s__law_blacks
  d__law_shown : Df K mg "_law_shown" s__law_shown
  d_nodes_in : Df K mg "nodes_in" s_nodes_in
  d_has_red_pair : Df K mg "has_red_pair" s_has_red_pair
  d_count_down : Df K mg "count_down" s_count_down
  d_shows_coloring : Df K mg "shows_coloring" s_shows_coloring
  d_uneven_node : Df K mg "uneven_node" s_uneven_node
  d__law_uneven : Df K mg "_law_uneven" s__law_uneven
  d__law_tree_right : Df K mg "_law_tree_right" s__law_tree_right
  d__law_colors_right : Df K mg "_law_colors_right" s__law_colors_right
  d_law : Df K mg "law" s_law
  z_abs : mg "abs" = none
  z_all : mg "all" = none
  z_any : mg "any" = none
  z_bool : mg "bool" = none
  z_dict : mg "dict" = none
  z_enumerate : mg "enumerate" = none
  z_int : mg "int" = none
  z_isinstance : mg "isinstance" = none
  z_len : mg "len" = none
  z_list : mg "list" = none
  z_max : mg "max" = none
  z_min : mg "min" = none
  z_range : mg "range" = none
  z_str : mg "str" = none
  z_sum : mg "sum" = none
  z_tuple : mg "tuple" = none
  c_BLACK : ∃ t, mg "BLACK" = some (.str "black" t)
  c_MOST_LISTED : ∃ t, mg "MOST_LISTED" = some (.int 7 t)
  c_MOST_NODES : ∃ t, mg "MOST_NODES" = some (.int 12 t)
  c_RED : ∃ t, mg "RED" = some (.str "red" t)
section
variable {P : Program} {w : World} {K : PySem.W.Frag} {mg : Str → Option Value} {base : Heap}
/-! ### _law_box -/
abbrev N__law_box : List Str := ["great"]
theorem sc__law_box : FnScope N__law_box ["great"] (defScope s__law_box) := ⟨rfl, rfl, rfl, by decide +kernel, rfl, by decide +kernel, by decide +kernel⟩
def b__law_box : FS :=
 (fRet (fMv (fLst (fCons (fCall (s1 gAbs) (fCons (fV 0) fNil)) (fCons (fBin sGe (fCall (s1 gAbs) (fCons (fV 0) fNil)) (fBin sPow (fC (.int 10)) (fC (.int 18)))) (fCons (fBin sMod (fCall (s1 gInt) (fCons (fCall (s1 gAbs) (fCons (fV 0) fNil)) fNil)) (fC (.int 2147483629))) (fCons (fC (.int 0)) fNil)))))))
def m__law_box : FF := fnG 1 1 (cK []) b__law_box
theorem ok__law_box (T : Txt K mg) : ∃ fd, Fn P w K mg base "_law_box" s__law_box 1 ["great"] m__law_box fd := by
  obtain ⟨gl, fd, Fu⟩ := T.d__law_box
  exact ⟨fd, okD gl Fu sc__law_box (cK []) (fun cdv A outer s H E hr =>
 (bOne (sRet (eMv (eLst (aCons (eCallB call_abs c_abs rfl T.z_abs B.abs (aCons (eVar (pv 0)) aNil)) (aCons (eCmp op_ge b_I0 (eCallB call_abs c_abs rfl T.z_abs B.abs (aCons (eVar (pv 0)) aNil)) (eOp op_pow b_pow eInt eInt) (nomark _)) (aCons (eOp op_mod b_mod (eCallT call_int1 c_int rfl T.z_int B.int (aCons (eCallB call_abs c_abs rfl T.z_abs B.abs (aCons (eVar (pv 0)) aNil)) aNil)) eInt) (aCons eInt aNil)))))))))⟩
/-! ### _law_take -/
abbrev N__law_take : List Str := ["box", "many", "digit", "mixed"]
theorem sc__law_take : FnScope N__law_take ["box", "many"] (defScope s__law_take) := ⟨rfl, rfl, rfl, by decide +kernel, rfl, by decide +kernel, by decide +kernel⟩
def b__law_take : FS :=
 (fSeq (fIfS (fAnd (fTru (fBin sIx (fV 0) (fC (.int 1)))) (fTst (fBin sGt (fBin sIx (fV 0) (fC (.int 0))) (fC (.int 0)))))
 (fSeq (fAsg (fFz (fBin sMod (fCall (s1 gInt) (fCons (fBin sIx (fV 0) (fC (.int 0))) fNil)) (fV 1))) (gN (cK [0]) 2))
 (fSeq (fAsg (fFz (fBin sDiv (fBin sIx (fV 0) (fC (.int 0))) (fV 1))) (gSet (fV 0) (fC (.int 0))))
 (fRet (fFz (fV 2)))))
 fPass)
 (fSeq (fAsg (fFz (fBin sAdd (fBin sIx (fV 0) (fC (.int 3))) (fC (.int 1)))) (gSet (fV 0) (fC (.int 3))))
 (fSeq (fAsg (fFz (fBin sMod (fCall (s1 gInt) (fCons (fBin sPow (fBin sAdd (fBin sAdd (fBin sIx (fV 0) (fC (.int 2))) (fBin sMul (fC (.int 15485959)) (fBin sIx (fV 0) (fC (.int 3))))) (fC (.int 179424779))) (fC (.int 5))) fNil)) (fC (.int 2147483647)))) (gN (cK [0]) 3))
 (fRet (fFz (fBin sMod (fCall (s1 gInt) (fCons (fBin sDiv (fBin sMod (fCall (s1 gInt) (fCons (fBin sPow (fBin sAdd (fBin sMul (fV 3) (fC (.int 48271))) (fBin sMul (fC (.int 104743)) (fBin sIx (fV 0) (fC (.int 3))))) (fC (.int 3))) fNil)) (fC (.int 2147483587))) (fC (.int 64))) fNil)) (fV 1)))))))
def m__law_take : FF := fnG 2 4 (cK [0]) b__law_take
theorem ok__law_take (T : Txt K mg) : ∃ fd, Fn P w K mg base "_law_take" s__law_take 1 ["box", "many"] m__law_take fd := by
  obtain ⟨gl, fd, Fu⟩ := T.d__law_take
  exact ⟨fd, okD gl Fu sc__law_take (cK [0]) (fun cdv A outer s H E hr =>
 (bCons (sIf (PW.pt (wAnd (tTru (eIx ix_seq b_ix (eVar (pv 0)) eInt (fun _ _ => rfl))) (wAnd1 (tCmpX op_gt b_I0 (eIx ix_seq b_ix (eVar (pv 0)) eInt (fun _ _ => rfl)) eInt (nomark _)))))
 (bCons (sSet (i := 2) sc__law_take.nd rfl (by first | exact .inl rfl | exact .inr rfl) (eFz (eOp op_mod b_mod (eCallT call_int1 c_int rfl T.z_int B.int (aCons (eIx ix_seq b_ix (eVar (pv 0)) eInt (fun _ _ => rfl)) aNil)) (eVar (pv 1)))))
 (bCons (sAsg (eFz (eOp op_fdivW b_div (eIx ix_seq b_ix (eVar (pv 0)) eInt (fun _ _ => rfl)) (eVar (pv 1)))) (gSetX (eVar (pv 0)) eInt))
 (bOne (sRet (eFz (eVar (pv 2)))))))
 bNil)
 (bCons (sAsg (eFz (eOp op_addA b_add (eIx ix_seq b_ix (eVar (pv 0)) eInt (fun _ _ => rfl)) eInt)) (gSetX (eVar (pv 0)) eInt))
 (bCons (sSet (i := 3) sc__law_take.nd rfl (by first | exact .inl rfl | exact .inr rfl) (eFz (eOp op_mod b_mod (eCallT call_int1 c_int rfl T.z_int B.int (aCons (eOp op_pow b_pow (eOp op_addA b_add (eOp op_addA b_add (eIx ix_seq b_ix (eVar (pv 0)) eInt (fun _ _ => rfl)) (eOp op_mulA b_mul eInt (eIx ix_seq b_ix (eVar (pv 0)) eInt (fun _ _ => rfl)))) eInt) eInt) aNil)) eInt)))
 (bOne (sRet (eFz (eOp op_mod b_mod (eCallT call_int1 c_int rfl T.z_int B.int (aCons (eOp op_fdivW b_div (eOp op_mod b_mod (eCallT call_int1 c_int rfl T.z_int B.int (aCons (eOp op_pow b_pow (eOp op_addA b_add (eOp op_mulA b_mul (eVar (pv 3)) eInt) (eOp op_mulA b_mul eInt (eIx ix_seq b_ix (eVar (pv 0)) eInt (fun _ _ => rfl)))) eInt) aNil)) eInt) eInt) aNil)) (eVar (pv 1))))))))))⟩
/-! ### _law_full -/
abbrev N__law_full : List Str := ["nodes", "rows", "k"]
theorem sc__law_full : FnScope N__law_full ["nodes"] (defScope s__law_full) := ⟨rfl, rfl, rfl, by decide +kernel, rfl, by decide +kernel, by decide +kernel⟩
def b__law_full : FS :=
 (fSeq (fAsg (fBin sMul (fLst (fCons (fC .non) fNil)) (fBin sAdd (fBin sMul (fC (.int 2)) (fV 0)) (fC (.int 3)))) (gN (cK []) 1))
 (fSeq (fFor (fRg3 (fCons (fFz (fBin sSub (fV 0) (fC (.int 1)))) (fCons (fNeg (fC (.int 1))) (fCons (fNeg (fC (.int 1))) fNil)))) (gN (cK []) 2)
 (fAsg (fFz (fTup (fCons (fFz (fBin sIx (fV 1) (fBin sAdd (fBin sMul (fC (.int 2)) (fV 2)) (fC (.int 1))))) (fCons (fFz (fBin sIx (fV 1) (fBin sAdd (fBin sMul (fC (.int 2)) (fV 2)) (fC (.int 2))))) fNil)))) (gSet (fV 1) (fFz (fV 2)))))
 (fRet (fFz (fBin sIx (fV 1) (fC (.int 0)))))))
def m__law_full : FF := fnG 1 3 (cK []) b__law_full
theorem ok__law_full (T : Txt K mg) : ∃ fd, Fn P w K mg base "_law_full" s__law_full 1 ["nodes"] m__law_full fd := by
  obtain ⟨gl, fd, Fu⟩ := T.d__law_full
  exact ⟨fd, okD gl Fu sc__law_full (cK []) (fun cdv A outer s H E hr =>
 (bCons (sSet (i := 1) sc__law_full.nd rfl (by first | exact .inl rfl | exact .inr rfl) (eOp op_mulA b_mul (eLst (aCons eNon aNil)) (eOp op_addA b_add (eOp op_mulA b_mul eInt (eVar (pv 0))) eInt)))
 (bCons (sFor PassesOwn.never rfl (iRg3 rfl T.z_range (aCons (eFz (eOp op_sub b_sub (eVar (pv 0)) eInt)) (aCons (eNeg eInt) (aCons (eNeg eInt) aNil)))) (gName' (pg_name (i := 2) sc__law_full.nd rfl (by first | exact .inl rfl | exact .inr rfl)))
 (bOne (sAsg (eFz (eTup (aCons (eFz (eIx ix_seq b_ix (eVar (pv 1)) (eOp op_addA b_add (eOp op_mulA b_mul eInt (eVar (pv 2))) eInt) (fun _ _ => rfl))) (aCons (eFz (eIx ix_seq b_ix (eVar (pv 1)) (eOp op_addA b_add (eOp op_mulA b_mul eInt (eVar (pv 2))) eInt) (fun _ _ => rfl))) aNil)))) (gSetX (eVar (pv 1)) (eFz (eVar (pv 2)))))))
 (bOne (sRet (eFz (eIx ix_seq b_ix (eVar (pv 1)) eInt (fun _ _ => rfl))))))))⟩
/-! ### _law_comb -/
abbrev N__law_comb : List Str := ["box", "nodes", "found", "k"]
theorem sc__law_comb : FnScope N__law_comb ["box", "nodes"] (defScope s__law_comb) := ⟨rfl, rfl, rfl, by decide +kernel, rfl, by decide +kernel, by decide +kernel⟩
def b__law_comb : FS :=
 (fSeq (fAsg (fC .non) (gN (cK [0]) 2))
 (fSeq (fFor (fRg1 (fCons (fFz (fV 1)) fNil)) (gN (cK [0]) 3)
 (fAsg (fFz (fBin sIx (fLst (fCons (fFz (fTup (fCons (fFz (fV 2)) (fCons (fC .non) fNil)))) (fCons (fFz (fTup (fCons (fC .non) (fCons (fFz (fV 2)) fNil)))) fNil))) (fFz (fCallF m__law_take (fCons (fV 0) (fCons (fC (.int 2)) fNil)))))) (gN (cK [0]) 2)))
 (fRet (fFz (fV 2)))))
def m__law_comb : FF := fnG 2 4 (cK [0]) b__law_comb
theorem ok__law_comb (T : Txt K mg) : ∃ fd, Fn P w K mg base "_law_comb" s__law_comb 2 ["box", "nodes"] m__law_comb fd := by
  obtain ⟨gl, fd, Fu⟩ := T.d__law_comb
  obtain ⟨fd__law_take, G__law_take⟩ := ok__law_take (P := P) (w := w) (base := base) T
  exact ⟨fd, okD gl Fu sc__law_comb (cK [0]) (fun cdv A outer s H E hr =>
 (bCons (sSet (i := 2) sc__law_comb.nd rfl (by first | exact .inl rfl | exact .inr rfl) eNon)
 (bCons (sFor PassesOwn.never rfl (iRg1 rfl T.z_range (aCons (eFz (eVar (pv 1))) aNil)) (gName' (pg_name (i := 3) sc__law_comb.nd rfl (by first | exact .inl rfl | exact .inr rfl)))
 (bOne (sSet (i := 2) sc__law_comb.nd rfl (by first | exact .inl rfl | exact .inr rfl) (eFz (eIx ix_seq b_ix (eLst (aCons (eFz (eTup (aCons (eFz (eVar (pv 2))) (aCons eNon aNil)))) (aCons (eFz (eTup (aCons eNon (aCons (eFz (eVar (pv 2))) aNil)))) aNil))) (eFz (eFn G__law_take (hr.mono (by decide)) rfl (fun _ _ _ _ _ _ us hl => match us, hl with | [_, _], _ => rfl) (aCons (eVar (pv 0)) (aCons eInt aNil)) (fan_cons (fan_cons fan_nil)))) (fun _ _ => rfl))))))
 (bOne (sRet (eFz (eVar (pv 2))))))))⟩
/-! ### _law_binary -/
abbrev N__law_binary : List Str := ["box", "nodes", "waits", "kind", "k", "one", "other", "made"]
theorem sc__law_binary : FnScope N__law_binary ["box", "nodes"] (defScope s__law_binary) := ⟨rfl, rfl, rfl, by decide +kernel, rfl, by decide +kernel, by decide +kernel⟩
def b__law_binary : FS :=
 (fSeq (fIfS (fTst (fBin (sEq false) (fV 1) (fC (.int 0))))
 (fRet (fC .non))
 fPass)
 (fSeq (gPar (cK [0]) 2 3 (fCons (fFz (fBin sMul (fLst (fCons (fFz (fTup (fCons (fC .non) (fCons (fC .non) fNil)))) fNil)) (fV 1))) (fCons (fFz (fFz (fCallF m__law_take (fCons (fV 0) (fCons (fC (.int 4)) fNil))))) fNil)))
 (fSeq (fWhile (fTst (fBin sGt (fCall (s1 gLen) (fCons (fV 2) fNil)) (fC (.int 1)))) (fSeq (fAsg (fFz (fBin sIx (fLst (fCons (fFz (fFz (fCallF m__law_take (fCons (fV 0) (fCons (fFz (fBin sSub (fCall (s1 gLen) (fCons (fV 2) fNil)) (fC (.int 1)))) fNil))))) (fCons (fC (.int 0)) (fCons (fFz (fBin sSub (fCall (s1 gLen) (fCons (fV 2) fNil)) (fC (.int 2)))) (fCons (fFz (fFz (fCallF m__law_take (fCons (fV 0) (fCons (fFz (fBin sSub (fCall (s1 gLen) (fCons (fV 2) fNil)) (fC (.int 1)))) fNil))))) fNil))))) (fV 3))) (gN (cK [0]) 4))
 (fSeq (gPar (cK [0]) 5 6 (fCons (fFz (fBin sIx (fV 2) (fV 4))) (fCons (fFz (fBin sIx (fV 2) (fBin sAdd (fV 4) (fC (.int 1))))) fNil)))
 (fSeq (fIfS (fAnd (fTst (fBin (sIs false) (fBin sIx (fV 6) (fC (.int 0))) (fC .non))) (fOr (fTst (fBin (sIs true) (fBin sIx (fV 5) (fC (.int 1))) (fC .non))) (fTst (fBin (sEq false) (fFz (fCallF m__law_take (fCons (fV 0) (fCons (fC (.int 2)) fNil)))) (fC (.int 0))))))
 (fAsg (fFz (fTup (fCons (fFz (fV 5)) (fCons (fFz (fBin sIx (fV 6) (fC (.int 1)))) fNil)))) (gN (cK [0]) 7))
 (fIfS (fTst (fBin (sIs false) (fBin sIx (fV 5) (fC (.int 1))) (fC .non)))
 (fAsg (fFz (fTup (fCons (fFz (fBin sIx (fV 5) (fC (.int 0)))) (fCons (fFz (fV 6)) fNil)))) (gN (cK [0]) 7))
 (fAsg (fC .non) (gN (cK [0]) 7))))
 (fSeq (fIfS (fTst (fBin (sIs false) (fV 7) (fC .non)))
 (fRet (fFz (fFz (fCallF m__law_comb (fCons (fV 0) (fCons (fFz (fV 1)) fNil))))))
 fPass)
 (fAsg (fFz (fBin sAdd (fBin sAdd (fSl (fV 2) fONone (fOSome (fV 4))) (fLst (fCons (fFz (fV 7)) fNil))) (fSl (fV 2) (fOSome (fBin sAdd (fV 4) (fC (.int 2)))) fONone))) (gN (cK [0]) 2)))))) 1000)
 (fRet (fFz (fBin sIx (fV 2) (fC (.int 0))))))))
def m__law_binary : FF := fnG 2 8 (cK [0]) b__law_binary
theorem ok__law_binary (T : Txt K mg) : ∃ fd, Fn P w K mg base "_law_binary" s__law_binary 3 ["box", "nodes"] m__law_binary fd := by
  obtain ⟨gl, fd, Fu⟩ := T.d__law_binary
  obtain ⟨fd__law_take, G__law_take⟩ := ok__law_take (P := P) (w := w) (base := base) T
  obtain ⟨fd__law_comb, G__law_comb⟩ := ok__law_comb (P := P) (w := w) (base := base) T
  exact ⟨fd, okD gl Fu sc__law_binary (cK [0]) (fun cdv A outer s H E hr =>
 (bCons (sIf (tCmpX (op_eqA hr.units) (b_eq false) (eVar (pv 1)) eInt (nomark _))
 (bOne (sRet eNon))
 bNil)
 (bCons (sPar (i := 2) (j := 3) rfl sc__law_binary.nd rfl rfl (by decide) rfl rfl (aCons (eFz (eOp op_mulA b_mul (eLst (aCons (eFz (eTup (aCons eNon (aCons eNon aNil)))) aNil)) (eVar (pv 1)))) (aCons (eFz (eFz (eFn G__law_take (hr.mono (by decide)) rfl (fun _ _ _ _ _ _ us hl => match us, hl with | [_, _], _ => rfl) (aCons (eVar (pv 0)) (aCons eInt aNil)) (fan_cons (fan_cons fan_nil))))) aNil)) rfl)
 (bCons (sWhile 1000 PassesOwn.never (tCmpX op_gt b_I0 (eCallB call_len c_len rfl T.z_len PySem.boot_len (aCons (eVar (pv 2)) aNil)) eInt (nomark _))
 (bCons (sSet (i := 4) sc__law_binary.nd rfl (by first | exact .inl rfl | exact .inr rfl) (eFz (eIx ix_seq b_ix (eLst (aCons (eFz (eFz (eFn G__law_take (hr.mono (by decide)) rfl (fun _ _ _ _ _ _ us hl => match us, hl with | [_, _], _ => rfl) (aCons (eVar (pv 0)) (aCons (eFz (eOp op_sub b_sub (eCallB call_len c_len rfl T.z_len PySem.boot_len (aCons (eVar (pv 2)) aNil)) eInt)) aNil)) (fan_cons (fan_cons fan_nil))))) (aCons eInt (aCons (eFz (eOp op_sub b_sub (eCallB call_len c_len rfl T.z_len PySem.boot_len (aCons (eVar (pv 2)) aNil)) eInt)) (aCons (eFz (eFz (eFn G__law_take (hr.mono (by decide)) rfl (fun _ _ _ _ _ _ us hl => match us, hl with | [_, _], _ => rfl) (aCons (eVar (pv 0)) (aCons (eFz (eOp op_sub b_sub (eCallB call_len c_len rfl T.z_len PySem.boot_len (aCons (eVar (pv 2)) aNil)) eInt)) aNil)) (fan_cons (fan_cons fan_nil))))) aNil))))) (eVar (pv 3)) (fun _ _ => rfl))))
 (bCons (sPar (i := 5) (j := 6) rfl sc__law_binary.nd rfl rfl (by decide) rfl rfl (aCons (eFz (eIx ix_seq b_ix (eVar (pv 2)) (eVar (pv 4)) (fun _ _ => rfl))) (aCons (eFz (eIx ix_seq b_ix (eVar (pv 2)) (eOp op_addA b_add (eVar (pv 4)) eInt) (fun _ _ => rfl))) aNil)) rfl)
 (bCons (sIf (PW.pt (wAnd (tCmpX op_isA (b_is false) (eIx ix_seq b_ix (eVar (pv 6)) eInt (fun _ _ => rfl)) eNon (nomark _)) (wAnd1 (PW.pt (wOr (tCmpX op_isNotA (b_is true) (eIx ix_seq b_ix (eVar (pv 5)) eInt (fun _ _ => rfl)) eNon (nomark _)) (wOr1 (tCmpX (op_eqA hr.units) (b_eq false) (eFz (eFn G__law_take (hr.mono (by decide)) rfl (fun _ _ _ _ _ _ us hl => match us, hl with | [_, _], _ => rfl) (aCons (eVar (pv 0)) (aCons eInt aNil)) (fan_cons (fan_cons fan_nil)))) eInt (nomark _))))))))
 (bOne (sSet (i := 7) sc__law_binary.nd rfl (by first | exact .inl rfl | exact .inr rfl) (eFz (eTup (aCons (eFz (eVar (pv 5))) (aCons (eFz (eIx ix_seq b_ix (eVar (pv 6)) eInt (fun _ _ => rfl))) aNil))))))
 (bOne (sIf (tCmpX op_isA (b_is false) (eIx ix_seq b_ix (eVar (pv 5)) eInt (fun _ _ => rfl)) eNon (nomark _))
 (bOne (sSet (i := 7) sc__law_binary.nd rfl (by first | exact .inl rfl | exact .inr rfl) (eFz (eTup (aCons (eFz (eIx ix_seq b_ix (eVar (pv 5)) eInt (fun _ _ => rfl))) (aCons (eFz (eVar (pv 6))) aNil))))))
 (bOne (sSet (i := 7) sc__law_binary.nd rfl (by first | exact .inl rfl | exact .inr rfl) eNon)))))
 (bCons (sIf (tCmpX op_isA (b_is false) (eVar (pv 7)) eNon (nomark _))
 (bOne (sRet (eFz (eFz (eFn G__law_comb (hr.mono (by decide)) rfl (fun _ _ _ _ _ _ us hl => match us, hl with | [_, _], _ => rfl) (aCons (eVar (pv 0)) (aCons (eFz (eVar (pv 1))) aNil)) (fan_cons (fan_cons fan_nil)))))))
 bNil)
 (bOne (sSet (i := 2) sc__law_binary.nd rfl (by first | exact .inl rfl | exact .inr rfl) (eFz (eOp op_addA b_add (eOp op_addA b_add (eSl (eVar (pv 2)) oNone (oSome (eVar (pv 4)))) (eLst (aCons (eFz (eVar (pv 7))) aNil))) (eSl (eVar (pv 2)) (oSome (eOp op_addA b_add (eVar (pv 4)) eInt)) oNone))))))))))
 (bOne (sRet (eFz (eIx ix_seq b_ix (eVar (pv 2)) eInt (fun _ _ => rfl)))))))))⟩
/-! ### _law_great -/
abbrev N__law_great : List Str := ["box", "many", "found", "turn", "way", "less"]
theorem sc__law_great : FnScope N__law_great ["box"] (defScope s__law_great) := ⟨rfl, rfl, rfl, by decide +kernel, rfl, by decide +kernel, by decide +kernel⟩
def b__law_great : FS :=
 (fSeq (gPar (cK [0]) 1 2 (fCons (fFz (fBin sAdd (fC (.int 8)) (fFz (fCallF m__law_take (fCons (fV 0) (fCons (fC (.int 5)) fNil)))))) (fCons (fLst fNil) fNil)))
 (fSeq (fFor (fRg1 (fCons (fC (.int 2)) fNil)) (gN (cK [0]) 3)
 (fSeq (fAsg (fFz (fFz (fCallF m__law_take (fCons (fV 0) (fCons (fC (.int 4)) fNil))))) (gN (cK [0]) 4))
 (fIfS (fTst (fBin (sEq false) (fV 4) (fC (.int 0))))
 (fExpr (fMt sApp (fV 2) (fCons (fCallF m__law_full (fCons (fFz (fV 1)) fNil)) fNil)))
 (fIfS (fTst (fBin (sEq false) (fV 4) (fC (.int 1))))
 (fSeq (fAsg (fFz (fBin sSub (fBin sDiv (fV 1) (fC (.int 2))) (fFz (fCallF m__law_take (fCons (fV 0) (fCons (fC (.int 3)) fNil)))))) (gN (cK [0]) 5))
 (fExpr (fMt sApp (fV 2) (fCons (fTup (fCons (fFz (fFz (fCallF m__law_full (fCons (fFz (fV 5)) fNil)))) (fCons (fFz (fFz (fCallF m__law_full (fCons (fFz (fBin sSub (fBin sSub (fV 1) (fC (.int 1))) (fV 5))) fNil)))) fNil))) fNil))))
 (fIfS (fTst (fBin (sEq false) (fV 4) (fC (.int 2))))
 (fSeq (fAsg (fFz (fBin sAdd (fC (.int 1)) (fFz (fCallF m__law_take (fCons (fV 0) (fCons (fFz (fBin sSub (fV 1) (fC (.int 2)))) fNil)))))) (gN (cK [0]) 5))
 (fExpr (fMt sApp (fV 2) (fCons (fTup (fCons (fFz (fFz (fCallF m__law_full (fCons (fFz (fV 5)) fNil)))) (fCons (fFz (fFz (fCallF m__law_binary (fCons (fV 0) (fCons (fFz (fBin sSub (fBin sSub (fV 1) (fC (.int 1))) (fV 5))) fNil))))) fNil))) fNil))))
 (fExpr (fMt sApp (fV 2) (fCons (fCallF m__law_binary (fCons (fV 0) (fCons (fFz (fV 1)) fNil))) fNil))))))))
 (fRet (fFz (fV 2)))))
def m__law_great : FF := fnG 1 6 (cK [0]) b__law_great
theorem ok__law_great (T : Txt K mg) : ∃ fd, Fn P w K mg base "_law_great" s__law_great 4 ["box"] m__law_great fd := by
  obtain ⟨gl, fd, Fu⟩ := T.d__law_great
  obtain ⟨fd__law_take, G__law_take⟩ := ok__law_take (P := P) (w := w) (base := base) T
  obtain ⟨fd__law_full, G__law_full⟩ := ok__law_full (P := P) (w := w) (base := base) T
  obtain ⟨fd__law_binary, G__law_binary⟩ := ok__law_binary (P := P) (w := w) (base := base) T
  exact ⟨fd, okD gl Fu sc__law_great (cK [0]) (fun cdv A outer s H E hr =>
 (bCons (sPar (i := 1) (j := 2) rfl sc__law_great.nd rfl rfl (by decide) rfl rfl (aCons (eFz (eOp op_addA b_add eInt (eFz (eFn G__law_take (hr.mono (by decide)) rfl (fun _ _ _ _ _ _ us hl => match us, hl with | [_, _], _ => rfl) (aCons (eVar (pv 0)) (aCons eInt aNil)) (fan_cons (fan_cons fan_nil)))))) (aCons (eLst aNil) aNil)) rfl)
 (bCons (sFor PassesOwn.never rfl (iRg1 rfl T.z_range (aCons eInt aNil)) (gName' (pg_name (i := 3) sc__law_great.nd rfl (by first | exact .inl rfl | exact .inr rfl)))
 (bCons (sSet (i := 4) sc__law_great.nd rfl (by first | exact .inl rfl | exact .inr rfl) (eFz (eFz (eFn G__law_take (hr.mono (by decide)) rfl (fun _ _ _ _ _ _ us hl => match us, hl with | [_, _], _ => rfl) (aCons (eVar (pv 0)) (aCons eInt aNil)) (fan_cons (fan_cons fan_nil))))))
 (bOne (sIf (tCmpX (op_eqA hr.units) (b_eq false) (eVar (pv 4)) eInt (nomark _))
 (bOne (sExpr (eMt PySem.F.plainAttrs_list PySem.F.slot_list_append PySem.F.type_list_append mt_append m_app (eVar (pv 2)) (aCons (eFn G__law_full (hr.mono (by decide)) rfl (fun _ _ _ _ _ _ us hl => match us, hl with | [_], _ => rfl) (aCons (eFz (eVar (pv 1))) aNil) (fan_cons fan_nil)) aNil))))
 (bOne (sIf (tCmpX (op_eqA hr.units) (b_eq false) (eVar (pv 4)) eInt (nomark _))
 (bCons (sSet (i := 5) sc__law_great.nd rfl (by first | exact .inl rfl | exact .inr rfl) (eFz (eOp op_sub b_sub (eOp op_fdivW b_div (eVar (pv 1)) eInt) (eFz (eFn G__law_take (hr.mono (by decide)) rfl (fun _ _ _ _ _ _ us hl => match us, hl with | [_, _], _ => rfl) (aCons (eVar (pv 0)) (aCons eInt aNil)) (fan_cons (fan_cons fan_nil)))))))
 (bOne (sExpr (eMt PySem.F.plainAttrs_list PySem.F.slot_list_append PySem.F.type_list_append mt_append m_app (eVar (pv 2)) (aCons (eTup (aCons (eFz (eFz (eFn G__law_full (hr.mono (by decide)) rfl (fun _ _ _ _ _ _ us hl => match us, hl with | [_], _ => rfl) (aCons (eFz (eVar (pv 5))) aNil) (fan_cons fan_nil)))) (aCons (eFz (eFz (eFn G__law_full (hr.mono (by decide)) rfl (fun _ _ _ _ _ _ us hl => match us, hl with | [_], _ => rfl) (aCons (eFz (eOp op_sub b_sub (eOp op_sub b_sub (eVar (pv 1)) eInt) (eVar (pv 5)))) aNil) (fan_cons fan_nil)))) aNil))) aNil)))))
 (bOne (sIf (tCmpX (op_eqA hr.units) (b_eq false) (eVar (pv 4)) eInt (nomark _))
 (bCons (sSet (i := 5) sc__law_great.nd rfl (by first | exact .inl rfl | exact .inr rfl) (eFz (eOp op_addA b_add eInt (eFz (eFn G__law_take (hr.mono (by decide)) rfl (fun _ _ _ _ _ _ us hl => match us, hl with | [_, _], _ => rfl) (aCons (eVar (pv 0)) (aCons (eFz (eOp op_sub b_sub (eVar (pv 1)) eInt)) aNil)) (fan_cons (fan_cons fan_nil)))))))
 (bOne (sExpr (eMt PySem.F.plainAttrs_list PySem.F.slot_list_append PySem.F.type_list_append mt_append m_app (eVar (pv 2)) (aCons (eTup (aCons (eFz (eFz (eFn G__law_full (hr.mono (by decide)) rfl (fun _ _ _ _ _ _ us hl => match us, hl with | [_], _ => rfl) (aCons (eFz (eVar (pv 5))) aNil) (fan_cons fan_nil)))) (aCons (eFz (eFz (eFn G__law_binary (hr.mono (by decide)) rfl (fun _ _ _ _ _ _ us hl => match us, hl with | [_, _], _ => rfl) (aCons (eVar (pv 0)) (aCons (eFz (eOp op_sub b_sub (eOp op_sub b_sub (eVar (pv 1)) eInt) (eVar (pv 5)))) aNil)) (fan_cons (fan_cons fan_nil))))) aNil))) aNil)))))
 (bOne (sExpr (eMt PySem.F.plainAttrs_list PySem.F.slot_list_append PySem.F.type_list_append mt_append m_app (eVar (pv 2)) (aCons (eFn G__law_binary (hr.mono (by decide)) rfl (fun _ _ _ _ _ _ us hl => match us, hl with | [_, _], _ => rfl) (aCons (eVar (pv 0)) (aCons (eFz (eVar (pv 1))) aNil)) (fan_cons (fan_cons fan_nil))) aNil))))))))))))
 (bOne (sRet (eFz (eVar (pv 2))))))))⟩
/-! ### _law_cell -/
abbrev N__law_cell : List Str := ["script", "k"]
theorem sc__law_cell : FnScope N__law_cell ["script", "k"] (defScope s__law_cell) := ⟨rfl, rfl, rfl, by decide +kernel, rfl, by decide +kernel, by decide +kernel⟩
def b__law_cell : FS :=
 (fRet (fFz (fIf (fTst (fBin sLt (fV 1) (fCall (s1 gLen) (fCons (fV 0) fNil)))) (fFz (fBin sIx (fV 0) (fV 1))) (fFz (fBin sAdd (fBin sMul (fC (.int 9343)) (fV 1)) (fBin sMod (fCall (s1 gInt) (fCons (fCall (s1 gSum) (fCons (fSl (fV 0) fONone (fOSome (fC (.int 1)))) fNil)) fNil)) (fC (.int 1000003))))))))
def m__law_cell : FF := fnG 2 2 (cK []) b__law_cell
theorem ok__law_cell (T : Txt K mg) : ∃ fd, Fn P w K mg base "_law_cell" s__law_cell 1 ["script", "k"] m__law_cell fd := by
  obtain ⟨gl, fd, Fu⟩ := T.d__law_cell
  exact ⟨fd, okD gl Fu sc__law_cell (cK []) (fun cdv A outer s H E hr =>
 (bOne (sRet (eFz (eIf (tCmpX (op_ltA hr.units0) b_lt (eVar (pv 1)) (eCallB call_len c_len rfl T.z_len PySem.boot_len (aCons (eVar (pv 0)) aNil)) (nomark _)) (eFz (eIx ix_seq b_ix (eVar (pv 0)) (eVar (pv 1)) (fun _ _ => rfl))) (eFz (eOp op_addA b_add (eOp op_mulA b_mul eInt (eVar (pv 1))) (eOp op_mod b_mod (eCallT call_int1 c_int rfl T.z_int B.int (aCons (eCallB (cr_sum rfl) c_sum rfl T.z_sum B.sum (aCons (eSl (eVar (pv 0)) oNone (oSome eInt)) aNil)) aNil)) eInt))))))))⟩
/-! ### is_integer -/
abbrev N_is_integer : List Str := ["value"]
theorem sc_is_integer : FnScope N_is_integer ["value"] (defScope s_is_integer) := ⟨rfl, rfl, rfl, by decide +kernel, rfl, by decide +kernel, by decide +kernel⟩
def b_is_integer : FS :=
 (fRet (fAndV (fIsi "int" (fV 0)) (fNotV (fIsi "bool" (fV 0)))))
def m_is_integer : FF := fnG 1 1 (cK []) b_is_integer
theorem ok_is_integer (T : Txt K mg) : ∃ fd, Fn P w K mg base "is_integer" s_is_integer 1 ["value"] m_is_integer fd := by
  obtain ⟨gl, fd, Fu⟩ := T.d_is_integer
  exact ⟨fd, okD gl Fu sc_is_integer (cK []) (fun cdv A outer s H E hr =>
 (bOne (sRet (eAnd (eIsi (T := "int") (by decide) rfl T.z_isinstance (eVar (pv 0)) rfl T.z_int B.int) (eOne (eNot (eIsi (T := "bool") (by decide) rfl T.z_isinstance (eVar (pv 0)) rfl T.z_bool B.bool)))))))⟩
/-! ### is_between -/
abbrev N_is_between : List Str := ["value", "least", "most"]
theorem sc_is_between : FnScope N_is_between ["value", "least", "most"] (defScope s_is_between) := ⟨rfl, rfl, rfl, by decide +kernel, rfl, by decide +kernel, by decide +kernel⟩
def b_is_between : FS :=
 (fRet (fAndV (fFz (fCallF m_is_integer (fCons (fFz (fV 0)) fNil))) (fCh sLe sLe (fV 1) (fV 0) (fV 2))))
def m_is_between : FF := fnG 3 3 (cK []) b_is_between
theorem ok_is_between (T : Txt K mg) : ∃ fd, Fn P w K mg base "is_between" s_is_between 2 ["value", "least", "most"] m_is_between fd := by
  obtain ⟨gl, fd, Fu⟩ := T.d_is_between
  obtain ⟨fd_is_integer, G_is_integer⟩ := ok_is_integer (P := P) (w := w) (base := base) T
  exact ⟨fd, okD gl Fu sc_is_between (cK []) (fun cdv A outer s H E hr =>
 (bOne (sRet (eAnd (eFz (eFn G_is_integer (hr.mono (by decide)) rfl (fun _ _ _ _ _ _ us hl => match us, hl with | [_], _ => rfl) (aCons (eFz (eVar (pv 0))) aNil) (fan_cons fan_nil))) (eOne (eCh op_le b_I0 op_le b_I0 (eVar (pv 1)) (eVar (pv 0)) (eVar (pv 2))))))))⟩
/-! ### choose -/
abbrev N_choose : List Str := ["many", "number", "found", "one"]
theorem sc_choose : FnScope N_choose ["many", "number"] (defScope s_choose) := ⟨rfl, rfl, rfl, by decide +kernel, rfl, by decide +kernel, by decide +kernel⟩
def b_choose : FS :=
 (fSeq (fAsg (fC (.int 1)) (gN (cK []) 2))
 (fSeq (fFor (fRg1 (fCons (fFz (fV 1)) fNil)) (gN (cK []) 3)
 (fAsg (fFz (fBin sDiv (fBin sMul (fV 2) (fBin sSub (fV 0) (fV 3))) (fBin sAdd (fV 3) (fC (.int 1))))) (gN (cK []) 2)))
 (fRet (fFz (fIf (fTst (fBin sGe (fV 1) (fC (.int 0)))) (fFz (fV 2)) (fC (.int 0)))))))
def m_choose : FF := fnG 2 4 (cK []) b_choose
theorem ok_choose (T : Txt K mg) : ∃ fd, Fn P w K mg base "choose" s_choose 1 ["many", "number"] m_choose fd := by
  obtain ⟨gl, fd, Fu⟩ := T.d_choose
  exact ⟨fd, okD gl Fu sc_choose (cK []) (fun cdv A outer s H E hr =>
 (bCons (sSet (i := 2) sc_choose.nd rfl (by first | exact .inl rfl | exact .inr rfl) eInt)
 (bCons (sFor PassesOwn.never rfl (iRg1 rfl T.z_range (aCons (eFz (eVar (pv 1))) aNil)) (gName' (pg_name (i := 3) sc_choose.nd rfl (by first | exact .inl rfl | exact .inr rfl)))
 (bOne (sSet (i := 2) sc_choose.nd rfl (by first | exact .inl rfl | exact .inr rfl) (eFz (eOp op_fdivW b_div (eOp op_mulA b_mul (eVar (pv 2)) (eOp op_sub b_sub (eVar (pv 0)) (eVar (pv 3)))) (eOp op_addA b_add (eVar (pv 3)) eInt))))))
 (bOne (sRet (eFz (eIf (tCmpX op_ge b_I0 (eVar (pv 1)) eInt (nomark _)) (eFz (eVar (pv 2))) eInt)))))))⟩
/-! ### catalan -/
abbrev N_catalan : List Str := ["number"]
theorem sc_catalan : FnScope N_catalan ["number"] (defScope s_catalan) := ⟨rfl, rfl, rfl, by decide +kernel, rfl, by decide +kernel, by decide +kernel⟩
def b_catalan : FS :=
 (fRet (fFz (fBin sDiv (fFz (fCallF m_choose (fCons (fFz (fBin sMul (fC (.int 2)) (fV 0))) (fCons (fFz (fV 0)) fNil)))) (fBin sAdd (fV 0) (fC (.int 1))))))
def m_catalan : FF := fnG 1 1 (cK []) b_catalan
theorem ok_catalan (T : Txt K mg) : ∃ fd, Fn P w K mg base "catalan" s_catalan 2 ["number"] m_catalan fd := by
  obtain ⟨gl, fd, Fu⟩ := T.d_catalan
  obtain ⟨fd_choose, G_choose⟩ := ok_choose (P := P) (w := w) (base := base) T
  exact ⟨fd, okD gl Fu sc_catalan (cK []) (fun cdv A outer s H E hr =>
 (bOne (sRet (eFz (eOp op_fdivW b_div (eFz (eFn G_choose (hr.mono (by decide)) rfl (fun _ _ _ _ _ _ us hl => match us, hl with | [_, _], _ => rfl) (aCons (eFz (eOp op_mulA b_mul eInt (eVar (pv 0)))) (aCons (eFz (eVar (pv 0))) aNil)) (fan_cons (fan_cons fan_nil)))) (eOp op_addA b_add (eVar (pv 0)) eInt))))))⟩
/-! ### tree_at -/
abbrev N_tree_at : List Str := ["nodes", "rank", "left", "rest", "many"]
theorem sc_tree_at : FnScope N_tree_at ["nodes", "rank"] (defScope s_tree_at) := ⟨rfl, rfl, rfl, by decide +kernel, rfl, by decide +kernel, by decide +kernel⟩
def b_tree_at (r : FF) : FS :=
 (fSeq (fIfS (fTst (fBin (sEq false) (fV 0) (fC (.int 0))))
 (fRet (fC .non))
 fPass)
 (fSeq (gPar (cK []) 2 3 (fCons (fC (.int 0)) (fCons (fFz (fV 1)) fNil)))
 (fSeq (fWhile (fTst (fBin sGe (fV 3) (fBin sMul (fFz (fCallF m_catalan (fCons (fFz (fV 2)) fNil))) (fFz (fCallF m_catalan (fCons (fFz (fBin sSub (fBin sSub (fV 0) (fC (.int 1))) (fV 2))) fNil)))))) (fSeq (fAsg (fFz (fBin sSub (fV 3) (fBin sMul (fFz (fCallF m_catalan (fCons (fFz (fV 2)) fNil))) (fFz (fCallF m_catalan (fCons (fFz (fBin sSub (fBin sSub (fV 0) (fC (.int 1))) (fV 2))) fNil)))))) (gN (cK []) 3))
 (fAsg (fFz (fBin sAdd (fV 2) (fC (.int 1)))) (gN (cK []) 2))) 1000)
 (fSeq (fAsg (fFz (fFz (fCallF m_catalan (fCons (fFz (fBin sSub (fBin sSub (fV 0) (fC (.int 1))) (fV 2))) fNil)))) (gN (cK []) 4))
 (fRet (fFz (fTup (fCons (fFz (fFz (fCallF r (fCons (fFz (fV 2)) (fCons (fFz (fBin sDiv (fV 3) (fV 4))) fNil))))) (fCons (fFz (fFz (fCallF r (fCons (fFz (fBin sSub (fBin sSub (fV 0) (fC (.int 1))) (fV 2))) (fCons (fFz (fBin sMod (fV 3) (fV 4))) fNil))))) fNil)))))))))
def m_tree_at : Nat → FF
  | 0 => fun _ => none
  | k + 1 => fnG 2 5 (cK []) (b_tree_at (m_tree_at k))
theorem ok_tree_at (T : Txt K mg) : ∃ fd, ∀ k, Fn P w K mg base "tree_at" s_tree_at (2 + k) ["nodes", "rank"] (m_tree_at k) fd := by
  obtain ⟨gl, fd, Fu⟩ := T.d_tree_at
  obtain ⟨fd_catalan, G_catalan⟩ := ok_catalan (P := P) (w := w) (base := base) T
  refine ⟨fd, fun k => ?_⟩
  induction k with
  | zero => exact fn0 gl Fu _
  | succ k Gr =>
    exact okD gl Fu sc_tree_at (cK []) (fun cdv A outer s H E hr =>
 (bCons (sIf (tCmpX (op_eqA hr.units) (b_eq false) (eVar (pv 0)) eInt (nomark _))
 (bOne (sRet eNon))
 bNil)
 (bCons (sPar (i := 2) (j := 3) rfl sc_tree_at.nd rfl rfl (by decide) rfl rfl (aCons eInt (aCons (eFz (eVar (pv 1))) aNil)) rfl)
 (bCons (sWhile 1000 PassesOwn.never (tCmpX op_ge b_I0 (eVar (pv 3)) (eOp op_mulA b_mul (eFz (eFn G_catalan (hr.mono (Nat.le_trans (by decide : 2 ≤ 2) (Nat.le_add_right 2 k))) rfl (fun _ _ _ _ _ _ us hl => match us, hl with | [_], _ => rfl) (aCons (eFz (eVar (pv 2))) aNil) (fan_cons fan_nil))) (eFz (eFn G_catalan (hr.mono (Nat.le_trans (by decide : 2 ≤ 2) (Nat.le_add_right 2 k))) rfl (fun _ _ _ _ _ _ us hl => match us, hl with | [_], _ => rfl) (aCons (eFz (eOp op_sub b_sub (eOp op_sub b_sub (eVar (pv 0)) eInt) (eVar (pv 2)))) aNil) (fan_cons fan_nil)))) (nomark _))
 (bCons (sSet (i := 3) sc_tree_at.nd rfl (by first | exact .inl rfl | exact .inr rfl) (eFz (eOp op_sub b_sub (eVar (pv 3)) (eOp op_mulA b_mul (eFz (eFn G_catalan (hr.mono (Nat.le_trans (by decide : 2 ≤ 2) (Nat.le_add_right 2 k))) rfl (fun _ _ _ _ _ _ us hl => match us, hl with | [_], _ => rfl) (aCons (eFz (eVar (pv 2))) aNil) (fan_cons fan_nil))) (eFz (eFn G_catalan (hr.mono (Nat.le_trans (by decide : 2 ≤ 2) (Nat.le_add_right 2 k))) rfl (fun _ _ _ _ _ _ us hl => match us, hl with | [_], _ => rfl) (aCons (eFz (eOp op_sub b_sub (eOp op_sub b_sub (eVar (pv 0)) eInt) (eVar (pv 2)))) aNil) (fan_cons fan_nil)))))))
 (bOne (sSet (i := 2) sc_tree_at.nd rfl (by first | exact .inl rfl | exact .inr rfl) (eFz (eOp op_addA b_add (eVar (pv 2)) eInt))))))
 (bCons (sSet (i := 4) sc_tree_at.nd rfl (by first | exact .inl rfl | exact .inr rfl) (eFz (eFz (eFn G_catalan (hr.mono (Nat.le_trans (by decide : 2 ≤ 2) (Nat.le_add_right 2 k))) rfl (fun _ _ _ _ _ _ us hl => match us, hl with | [_], _ => rfl) (aCons (eFz (eOp op_sub b_sub (eOp op_sub b_sub (eVar (pv 0)) eInt) (eVar (pv 2)))) aNil) (fan_cons fan_nil)))))
 (bOne (sRet (eFz (eTup (aCons (eFz (eFz (eFn Gr hr rfl (fun _ _ _ _ _ _ us hl => match us, hl with | [_, _], _ => rfl) (aCons (eFz (eVar (pv 2))) (aCons (eFz (eOp op_fdivW b_div (eVar (pv 3)) (eVar (pv 4)))) aNil)) (fan_cons (fan_cons fan_nil))))) (aCons (eFz (eFz (eFn Gr hr rfl (fun _ _ _ _ _ _ us hl => match us, hl with | [_, _], _ => rfl) (aCons (eFz (eOp op_sub b_sub (eOp op_sub b_sub (eVar (pv 0)) eInt) (eVar (pv 2)))) (aCons (eFz (eOp op_mod b_mod (eVar (pv 3)) (eVar (pv 4)))) aNil)) (fan_cons (fan_cons fan_nil))))) aNil)))))))))))
/-! ### binaries -/
abbrev N_binaries : List Str := ["nodes", "rank"]
theorem sc_binaries : FnScope N_binaries ["nodes"] (defScope s_binaries) := ⟨rfl, rfl, rfl, by decide +kernel, rfl, by decide +kernel, by decide +kernel⟩
def b_binaries : FS :=
 (fSeq (fIfS (fNot (fTru (fFz (fCallF m_is_between (fCons (fFz (fV 0)) (fCons (fC (.int 0)) (fCons (fFz (fC (.int 7))) fNil)))))))
 fNever
 fPass)
 (fRet (fFz (fComp (fRg1 (fCons (fFz (fFz (fCallF m_catalan (fCons (fFz (fV 0)) fNil)))) fNil)) (gN (fun i => !(([("rank", 1)] : List (Str × Nat)).map (·.2)).contains i) 1) fYes (fCallF (m_tree_at 16) (fCons (fFz (fV 0)) (fCons (fFz (fV 1)) fNil))) [1]))))
def m_binaries : FF := fnG 1 2 (cK []) b_binaries
theorem ok_binaries (T : Txt K mg) : ∃ fd, Fn P w K mg base "binaries" s_binaries 19 ["nodes"] m_binaries fd := by
  obtain ⟨gl, fd, Fu⟩ := T.d_binaries
  obtain ⟨fd_is_between, G_is_between⟩ := ok_is_between (P := P) (w := w) (base := base) T
  obtain ⟨fd_catalan, G_catalan⟩ := ok_catalan (P := P) (w := w) (base := base) T
  obtain ⟨fd_tree_at, G_tree_at⟩ := ok_tree_at (P := P) (w := w) (base := base) T
  exact ⟨fd, okD gl Fu sc_binaries (cK []) (fun cdv A outer s H E hr =>
 (bCons (sIf (tNotX (tTru (eFz (eFn G_is_between (hr.mono (by decide)) rfl (fun _ _ _ _ _ _ us hl => match us, hl with | [_, _, _], _ => rfl) (aCons (eFz (eVar (pv 0))) (aCons eInt (aCons (eFz (eKi rfl T.c_MOST_LISTED)) aNil))) (fan_cons (fan_cons (fan_cons fan_nil)))))))
 (bOne sNever)
 bNil)
 (bOne (sRet (eFz (eComp (own := [("rank", 1)]) rfl sc_binaries.nd (iRg1 rfl T.z_range (aCons (eFz (eFz (eFn G_catalan (hr.mono (by decide)) rfl (fun _ _ _ _ _ _ us hl => match us, hl with | [_], _ => rfl) (aCons (eFz (eVar (pv 0))) aNil) (fan_cons fan_nil)))) aNil)) (blkOk_by (own := [("rank", 1)]) (N := N_binaries) (sc := defScope s_binaries) (by decide +kernel)) (fun _ _ _ _ _ => (gName' (pg_name (i := 1) sc_binaries.nd rfl (by first | exact .inl rfl | exact .inr rfl)))) (fun _ _ _ _ _ => bYes) (fun _ _ _ _ _ => (eFn (G_tree_at 16) (hr.mono (by decide)) rfl (fun _ _ _ _ _ _ us hl => match us, hl with | [_, _], _ => rfl) (aCons (eFz (eVar (pv 0))) (aCons (eFz (eVar (pv 1))) aNil)) (fan_cons (fan_cons fan_nil))))))))))⟩
/-! ### is_binary -/
abbrev N_is_binary : List Str := ["value", "waits", "many", "here"]
theorem sc_is_binary : FnScope N_is_binary ["value"] (defScope s_is_binary) := ⟨rfl, rfl, rfl, by decide +kernel, rfl, by decide +kernel, by decide +kernel⟩
def b_is_binary : FS :=
 (fSeq (gPar (cK []) 1 2 (fCons (fLst (fCons (fFz (fV 0)) fNil)) (fCons (fC (.int 0)) fNil)))
 (fSeq (fWhile (fTst (fBin (sEq true) (fV 1) (fLst fNil))) (fSeq (fAsg (fFz (fMt sPop (fV 1) fNil)) (gN (cK []) 3))
 (fIfS (fTst (fBin (sIs true) (fV 3) (fC .non)))
 (fSeq (fAsg (fFz (fBin sAdd (fV 2) (fC (.int 1)))) (gN (cK []) 2))
 (fSeq (fIfS (fOr (fNot (fTru (fIsi "tuple" (fV 3)))) (fOr (fTst (fBin (sEq true) (fCall (s1 gLen) (fCons (fV 3) fNil)) (fC (.int 2)))) (fTst (fBin sGt (fV 2) (fC (.int 12))))))
 (fRet (fC (.bl false)))
 fPass)
 (fExpr (fMt sExt (fV 1) (fCons (fFz (fV 3)) fNil)))))
 fPass)) 1000)
 (fRet (fC (.bl true)))))
def m_is_binary : FF := fnG 1 4 (cK []) b_is_binary
theorem ok_is_binary (T : Txt K mg) : ∃ fd, Fn P w K mg base "is_binary" s_is_binary 1 ["value"] m_is_binary fd := by
  obtain ⟨gl, fd, Fu⟩ := T.d_is_binary
  exact ⟨fd, okD gl Fu sc_is_binary (cK []) (fun cdv A outer s H E hr =>
 (bCons (sPar (i := 1) (j := 2) rfl sc_is_binary.nd rfl rfl (by decide) rfl rfl (aCons (eLst (aCons (eFz (eVar (pv 0))) aNil)) (aCons eInt aNil)) rfl)
 (bCons (sWhile 1000 PassesOwn.never (tCmpX (op_neA hr.units) (b_eq true) (eVar (pv 1)) (eLst aNil) (nomark _))
 (bCons (sSet (i := 3) sc_is_binary.nd rfl (by first | exact .inl rfl | exact .inr rfl) (eFz (eMt0 PySem.F.plainAttrs_list PySem.F.slot_list_pop PySem.F.type_list_pop mt_pop m_pop (eVar (pv 1)))))
 (bOne (sIf (tCmpX op_isNotA (b_is true) (eVar (pv 3)) eNon (nomark _))
 (bCons (sSet (i := 2) sc_is_binary.nd rfl (by first | exact .inl rfl | exact .inr rfl) (eFz (eOp op_addA b_add (eVar (pv 2)) eInt)))
 (bCons (sIf (PW.pt (wOr (tNotX (tTru (eIsi (T := "tuple") (by decide) rfl T.z_isinstance (eVar (pv 3)) rfl T.z_tuple B.tuple))) (wOr (tCmpX (op_neA hr.units) (b_eq true) (eCallB call_len c_len rfl T.z_len PySem.boot_len (aCons (eVar (pv 3)) aNil)) eInt (nomark _)) (wOr1 (tCmpX op_gt b_I0 (eVar (pv 2)) (eKi rfl T.c_MOST_NODES) (nomark _))))))
 (bOne (sRet eBl))
 bNil)
 (bOne (sExpr (eMt PySem.F.plainAttrs_list PySem.F.slot_list_extend PySem.F.type_list_extend mt_extA m_ext (eVar (pv 1)) (aCons (eFz (eVar (pv 3))) aNil))))))
 bNil))))
 (bOne (sRet eBl)))))⟩
/-! ### check_binary -/
abbrev N_check_binary : List Str := ["binary"]
theorem sc_check_binary : FnScope N_check_binary ["binary"] (defScope s_check_binary) := ⟨rfl, rfl, rfl, by decide +kernel, rfl, by decide +kernel, by decide +kernel⟩
def b_check_binary : FS :=
 (fIfS (fNot (fTru (fFz (fCallF m_is_binary (fCons (fFz (fV 0)) fNil)))))
 fNever
 fPass)
def m_check_binary : FF := fnG 1 1 (cK []) b_check_binary
theorem ok_check_binary (T : Txt K mg) : ∃ fd, Fn P w K mg base "check_binary" s_check_binary 2 ["binary"] m_check_binary fd := by
  obtain ⟨gl, fd, Fu⟩ := T.d_check_binary
  obtain ⟨fd_is_binary, G_is_binary⟩ := ok_is_binary (P := P) (w := w) (base := base) T
  exact ⟨fd, okD gl Fu sc_check_binary (cK []) (fun cdv A outer s H E hr =>
 (bOne (sIf (tNotX (tTru (eFz (eFn G_is_binary (hr.mono (by decide)) rfl (fun _ _ _ _ _ _ us hl => match us, hl with | [_], _ => rfl) (aCons (eFz (eVar (pv 0))) aNil) (fan_cons fan_nil)))))
 (bOne sNever)
 bNil)))⟩
/-! ### turned -/
abbrev N_turned : List Str := ["binary"]
theorem sc_turned : FnScope N_turned ["binary"] (defScope s_turned) := ⟨rfl, rfl, rfl, by decide +kernel, rfl, by decide +kernel, by decide +kernel⟩
def b_turned (r : FF) : FS :=
 (fRet (fFz (fIf (fTst (fBin (sIs false) (fV 0) (fC .non))) (fC .non) (fFz (fTup (fCons (fFz (fFz (fCallF r (fCons (fFz (fBin sIx (fV 0) (fC (.int 1)))) fNil)))) (fCons (fFz (fFz (fCallF r (fCons (fFz (fBin sIx (fV 0) (fC (.int 0)))) fNil)))) fNil)))))))
def m_turned : Nat → FF
  | 0 => fun _ => none
  | k + 1 => fnG 1 1 (cK []) (b_turned (m_turned k))
theorem ok_turned (T : Txt K mg) : ∃ fd, ∀ k, Fn P w K mg base "turned" s_turned (0 + k) ["binary"] (m_turned k) fd := by
  obtain ⟨gl, fd, Fu⟩ := T.d_turned
  refine ⟨fd, fun k => ?_⟩
  induction k with
  | zero => exact fn0 gl Fu _
  | succ k Gr =>
    exact okD gl Fu sc_turned (cK []) (fun cdv A outer s H E hr =>
 (bOne (sRet (eFz (eIf (tCmpX op_isA (b_is false) (eVar (pv 0)) eNon (nomark _)) eNon (eFz (eTup (aCons (eFz (eFz (eFn Gr hr rfl (fun _ _ _ _ _ _ us hl => match us, hl with | [_], _ => rfl) (aCons (eFz (eIx ix_seq b_ix (eVar (pv 0)) eInt (fun _ _ => rfl))) aNil) (fan_cons fan_nil)))) (aCons (eFz (eFz (eFn Gr hr rfl (fun _ _ _ _ _ _ us hl => match us, hl with | [_], _ => rfl) (aCons (eFz (eIx ix_seq b_ix (eVar (pv 0)) eInt (fun _ _ => rfl))) aNil) (fan_cons fan_nil)))) aNil)))))))))
/-! ### binary_mirror -/
abbrev N_binary_mirror : List Str := ["binary"]
theorem sc_binary_mirror : FnScope N_binary_mirror ["binary"] (defScope s_binary_mirror) := ⟨rfl, rfl, rfl, by decide +kernel, rfl, by decide +kernel, by decide +kernel⟩
def b_binary_mirror : FS :=
 (fSeq (fExpr (fCallF m_check_binary (fCons (fFz (fV 0)) fNil)))
 (fRet (fFz (fFz (fCallF (m_turned 16) (fCons (fFz (fV 0)) fNil))))))
def m_binary_mirror : FF := fnG 1 1 (cK []) b_binary_mirror
theorem ok_binary_mirror (T : Txt K mg) : ∃ fd, Fn P w K mg base "binary_mirror" s_binary_mirror 17 ["binary"] m_binary_mirror fd := by
  obtain ⟨gl, fd, Fu⟩ := T.d_binary_mirror
  obtain ⟨fd_check_binary, G_check_binary⟩ := ok_check_binary (P := P) (w := w) (base := base) T
  obtain ⟨fd_turned, G_turned⟩ := ok_turned (P := P) (w := w) (base := base) T
  exact ⟨fd, okD gl Fu sc_binary_mirror (cK []) (fun cdv A outer s H E hr =>
 (bCons (sExpr (eFn G_check_binary (hr.mono (by decide)) rfl (fun _ _ _ _ _ _ us hl => match us, hl with | [_], _ => rfl) (aCons (eFz (eVar (pv 0))) aNil) (fan_cons fan_nil)))
 (bOne (sRet (eFz (eFz (eFn (G_turned 16) (hr.mono (by decide)) rfl (fun _ _ _ _ _ _ us hl => match us, hl with | [_], _ => rfl) (aCons (eFz (eVar (pv 0))) aNil) (fan_cons fan_nil))))))))⟩
/-! ### _law_ways -/
abbrev N__law_ways : List Str := ["binary", "one", "other"]
theorem sc__law_ways : FnScope N__law_ways ["binary"] (defScope s__law_ways) := ⟨rfl, rfl, rfl, by decide +kernel, rfl, by decide +kernel, by decide +kernel⟩
def b__law_ways (r : FF) : FS :=
 (fSeq (fIfS (fTst (fBin (sIs false) (fV 0) (fC .non)))
 (fRet (fFz (fTup (fCons (fC (.int 0)) (fCons (fC (.int 0)) fNil)))))
 fPass)
 (fSeq (gPar (cK []) 1 2 (fCons (fFz (fFz (fCallF r (fCons (fFz (fBin sIx (fV 0) (fC (.int 0)))) fNil)))) (fCons (fFz (fFz (fCallF r (fCons (fFz (fBin sIx (fV 0) (fC (.int 1)))) fNil)))) fNil)))
 (fRet (fFz (fTup (fCons (fFz (fBin sAdd (fC (.int 1)) (fCall (s2 gMax2) (fCons (fBin sIx (fV 1) (fC (.int 0))) (fCons (fBin sIx (fV 2) (fC (.int 0))) fNil))))) (fCons (fFz (fBin sAdd (fC (.int 1)) (fCall (s2 gMin2) (fCons (fBin sIx (fV 1) (fC (.int 1))) (fCons (fBin sIx (fV 2) (fC (.int 1))) fNil))))) fNil)))))))
def m__law_ways : Nat → FF
  | 0 => fun _ => none
  | k + 1 => fnG 1 3 (cK []) (b__law_ways (m__law_ways k))
theorem ok__law_ways (T : Txt K mg) : ∃ fd, ∀ k, Fn P w K mg base "_law_ways" s__law_ways (0 + k) ["binary"] (m__law_ways k) fd := by
  obtain ⟨gl, fd, Fu⟩ := T.d__law_ways
  refine ⟨fd, fun k => ?_⟩
  induction k with
  | zero => exact fn0 gl Fu _
  | succ k Gr =>
    exact okD gl Fu sc__law_ways (cK []) (fun cdv A outer s H E hr =>
 (bCons (sIf (tCmpX op_isA (b_is false) (eVar (pv 0)) eNon (nomark _))
 (bOne (sRet (eFz (eTup (aCons eInt (aCons eInt aNil))))))
 bNil)
 (bCons (sPar (i := 1) (j := 2) rfl sc__law_ways.nd rfl rfl (by decide) rfl rfl (aCons (eFz (eFz (eFn Gr hr rfl (fun _ _ _ _ _ _ us hl => match us, hl with | [_], _ => rfl) (aCons (eFz (eIx ix_seq b_ix (eVar (pv 0)) eInt (fun _ _ => rfl))) aNil) (fan_cons fan_nil)))) (aCons (eFz (eFz (eFn Gr hr rfl (fun _ _ _ _ _ _ us hl => match us, hl with | [_], _ => rfl) (aCons (eFz (eIx ix_seq b_ix (eVar (pv 0)) eInt (fun _ _ => rfl))) aNil) (fan_cons fan_nil)))) aNil)) rfl)
 (bOne (sRet (eFz (eTup (aCons (eFz (eOp op_addA b_add eInt (eCallB (call_max2 rfl) c_max2 rfl T.z_max B.max (aCons (eIx ix_seq b_ix (eVar (pv 1)) eInt (fun _ _ => rfl)) (aCons (eIx ix_seq b_ix (eVar (pv 2)) eInt (fun _ _ => rfl)) aNil))))) (aCons (eFz (eOp op_addA b_add eInt (eCallB (call_min2 rfl) c_min2 rfl T.z_min B.min (aCons (eIx ix_seq b_ix (eVar (pv 1)) eInt (fun _ _ => rfl)) (aCons (eIx ix_seq b_ix (eVar (pv 2)) eInt (fun _ _ => rfl)) aNil))))) aNil)))))))))
/-! ### _law_nodes -/
abbrev N__law_nodes : List Str := ["binary"]
theorem sc__law_nodes : FnScope N__law_nodes ["binary"] (defScope s__law_nodes) := ⟨rfl, rfl, rfl, by decide +kernel, rfl, by decide +kernel, by decide +kernel⟩
def b__law_nodes (r : FF) : FS :=
 (fRet (fFz (fIf (fTst (fBin (sIs false) (fV 0) (fC .non))) (fFz (fLst fNil)) (fFz (fBin sAdd (fBin sAdd (fFz (fCallF r (fCons (fFz (fBin sIx (fV 0) (fC (.int 0)))) fNil))) (fLst (fCons (fFz (fV 0)) fNil))) (fFz (fCallF r (fCons (fFz (fBin sIx (fV 0) (fC (.int 1)))) fNil))))))))
def m__law_nodes : Nat → FF
  | 0 => fun _ => none
  | k + 1 => fnG 1 1 (cK []) (b__law_nodes (m__law_nodes k))
theorem ok__law_nodes (T : Txt K mg) : ∃ fd, ∀ k, Fn P w K mg base "_law_nodes" s__law_nodes (0 + k) ["binary"] (m__law_nodes k) fd := by
  obtain ⟨gl, fd, Fu⟩ := T.d__law_nodes
  refine ⟨fd, fun k => ?_⟩
  induction k with
  | zero => exact fn0 gl Fu _
  | succ k Gr =>
    exact okD gl Fu sc__law_nodes (cK []) (fun cdv A outer s H E hr =>
 (bOne (sRet (eFz (eIf (tCmpX op_isA (b_is false) (eVar (pv 0)) eNon (nomark _)) (eFz (eLst aNil)) (eFz (eOp op_addA b_add (eOp op_addA b_add (eFz (eFn Gr hr rfl (fun _ _ _ _ _ _ us hl => match us, hl with | [_], _ => rfl) (aCons (eFz (eIx ix_seq b_ix (eVar (pv 0)) eInt (fun _ _ => rfl))) aNil) (fan_cons fan_nil))) (eLst (aCons (eFz (eVar (pv 0))) aNil))) (eFz (eFn Gr hr rfl (fun _ _ _ _ _ _ us hl => match us, hl with | [_], _ => rfl) (aCons (eFz (eIx ix_seq b_ix (eVar (pv 0)) eInt (fun _ _ => rfl))) aNil) (fan_cons fan_nil))))))))))
/-! ### size_of -/
abbrev N_size_of : List Str := ["binary", "found", "waits", "here"]
theorem sc_size_of : FnScope N_size_of ["binary"] (defScope s_size_of) := ⟨rfl, rfl, rfl, by decide +kernel, rfl, by decide +kernel, by decide +kernel⟩
def b_size_of : FS :=
 (fSeq (gPar (cK []) 1 2 (fCons (fC (.int 0)) (fCons (fLst (fCons (fFz (fV 0)) fNil)) fNil)))
 (fSeq (fWhile (fTst (fBin (sEq true) (fV 2) (fLst fNil))) (fSeq (fAsg (fFz (fMt sPop (fV 2) fNil)) (gN (cK []) 3))
 (fIfS (fTst (fBin (sIs true) (fV 3) (fC .non)))
 (fSeq (fAsg (fFz (fBin sAdd (fV 1) (fC (.int 1)))) (gN (cK []) 1))
 (fExpr (fMt sExt (fV 2) (fCons (fFz (fV 3)) fNil))))
 fPass)) 1000)
 (fRet (fFz (fV 1)))))
def m_size_of : FF := fnG 1 4 (cK []) b_size_of
theorem ok_size_of (T : Txt K mg) : ∃ fd, Fn P w K mg base "size_of" s_size_of 1 ["binary"] m_size_of fd := by
  obtain ⟨gl, fd, Fu⟩ := T.d_size_of
  exact ⟨fd, okD gl Fu sc_size_of (cK []) (fun cdv A outer s H E hr =>
 (bCons (sPar (i := 1) (j := 2) rfl sc_size_of.nd rfl rfl (by decide) rfl rfl (aCons eInt (aCons (eLst (aCons (eFz (eVar (pv 0))) aNil)) aNil)) rfl)
 (bCons (sWhile 1000 PassesOwn.never (tCmpX (op_neA hr.units) (b_eq true) (eVar (pv 2)) (eLst aNil) (nomark _))
 (bCons (sSet (i := 3) sc_size_of.nd rfl (by first | exact .inl rfl | exact .inr rfl) (eFz (eMt0 PySem.F.plainAttrs_list PySem.F.slot_list_pop PySem.F.type_list_pop mt_pop m_pop (eVar (pv 2)))))
 (bOne (sIf (tCmpX op_isNotA (b_is true) (eVar (pv 3)) eNon (nomark _))
 (bCons (sSet (i := 1) sc_size_of.nd rfl (by first | exact .inl rfl | exact .inr rfl) (eFz (eOp op_addA b_add (eVar (pv 1)) eInt)))
 (bOne (sExpr (eMt PySem.F.plainAttrs_list PySem.F.slot_list_extend PySem.F.type_list_extend mt_extA m_ext (eVar (pv 2)) (aCons (eFz (eVar (pv 3))) aNil)))))
 bNil))))
 (bOne (sRet (eFz (eVar (pv 1))))))))⟩
/-! ### stretches_of -/
abbrev N_stretches_of : List Str := ["binary", "first", "node"]
theorem sc_stretches_of : FnScope N_stretches_of ["binary", "first"] (defScope s_stretches_of) := ⟨rfl, rfl, rfl, by decide +kernel, rfl, by decide +kernel, by decide +kernel⟩
def b_stretches_of (r : FF) : FS :=
 (fSeq (fIfS (fTst (fBin (sIs false) (fV 0) (fC .non)))
 (fRet (fFz (fLst fNil)))
 fPass)
 (fSeq (fAsg (fFz (fBin sAdd (fV 1) (fFz (fCallF m_size_of (fCons (fFz (fBin sIx (fV 0) (fC (.int 0)))) fNil))))) (gN (cK []) 2))
 (fRet (fFz (fBin sAdd (fBin sAdd (fFz (fCallF r (fCons (fFz (fBin sIx (fV 0) (fC (.int 0)))) (fCons (fFz (fV 1)) fNil)))) (fLst (fCons (fFz (fTup (fCons (fFz (fV 2)) (fCons (fFz (fBin sIx (fV 0) (fC (.int 0)))) (fCons (fFz (fBin sIx (fV 0) (fC (.int 1)))) fNil))))) fNil))) (fFz (fCallF r (fCons (fFz (fBin sIx (fV 0) (fC (.int 1)))) (fCons (fFz (fBin sAdd (fV 2) (fC (.int 1)))) fNil)))))))))
def m_stretches_of : Nat → FF
  | 0 => fun _ => none
  | k + 1 => fnG 2 3 (cK []) (b_stretches_of (m_stretches_of k))
theorem ok_stretches_of (T : Txt K mg) : ∃ fd, ∀ k, Fn P w K mg base "stretches_of" s_stretches_of (1 + k) ["binary", "first"] (m_stretches_of k) fd := by
  obtain ⟨gl, fd, Fu⟩ := T.d_stretches_of
  obtain ⟨fd_size_of, G_size_of⟩ := ok_size_of (P := P) (w := w) (base := base) T
  refine ⟨fd, fun k => ?_⟩
  induction k with
  | zero => exact fn0 gl Fu _
  | succ k Gr =>
    exact okD gl Fu sc_stretches_of (cK []) (fun cdv A outer s H E hr =>
 (bCons (sIf (tCmpX op_isA (b_is false) (eVar (pv 0)) eNon (nomark _))
 (bOne (sRet (eFz (eLst aNil))))
 bNil)
 (bCons (sSet (i := 2) sc_stretches_of.nd rfl (by first | exact .inl rfl | exact .inr rfl) (eFz (eOp op_addA b_add (eVar (pv 1)) (eFz (eFn G_size_of (hr.mono (Nat.le_trans (by decide : 1 ≤ 1) (Nat.le_add_right 1 k))) rfl (fun _ _ _ _ _ _ us hl => match us, hl with | [_], _ => rfl) (aCons (eFz (eIx ix_seq b_ix (eVar (pv 0)) eInt (fun _ _ => rfl))) aNil) (fan_cons fan_nil))))))
 (bOne (sRet (eFz (eOp op_addA b_add (eOp op_addA b_add (eFz (eFn Gr hr rfl (fun _ _ _ _ _ _ us hl => match us, hl with | [_, _], _ => rfl) (aCons (eFz (eIx ix_seq b_ix (eVar (pv 0)) eInt (fun _ _ => rfl))) (aCons (eFz (eVar (pv 1))) aNil)) (fan_cons (fan_cons fan_nil)))) (eLst (aCons (eFz (eTup (aCons (eFz (eVar (pv 2))) (aCons (eFz (eIx ix_seq b_ix (eVar (pv 0)) eInt (fun _ _ => rfl))) (aCons (eFz (eIx ix_seq b_ix (eVar (pv 0)) eInt (fun _ _ => rfl))) aNil))))) aNil))) (eFz (eFn Gr hr rfl (fun _ _ _ _ _ _ us hl => match us, hl with | [_, _], _ => rfl) (aCons (eFz (eIx ix_seq b_ix (eVar (pv 0)) eInt (fun _ _ => rfl))) (aCons (eFz (eOp op_addA b_add (eVar (pv 2)) eInt)) aNil)) (fan_cons (fan_cons fan_nil)))))))))))
/-! ### height_in -/
abbrev N_height_in : List Str := ["binary"]
theorem sc_height_in : FnScope N_height_in ["binary"] (defScope s_height_in) := ⟨rfl, rfl, rfl, by decide +kernel, rfl, by decide +kernel, by decide +kernel⟩
def b_height_in (r : FF) : FS :=
 (fRet (fFz (fIf (fTst (fBin (sIs false) (fV 0) (fC .non))) (fC (.int 0)) (fFz (fBin sAdd (fC (.int 1)) (fCall (s2 gMax2) (fCons (fFz (fCallF r (fCons (fFz (fBin sIx (fV 0) (fC (.int 0)))) fNil))) (fCons (fFz (fCallF r (fCons (fFz (fBin sIx (fV 0) (fC (.int 1)))) fNil))) fNil))))))))
def m_height_in : Nat → FF
  | 0 => fun _ => none
  | k + 1 => fnG 1 1 (cK []) (b_height_in (m_height_in k))
theorem ok_height_in (T : Txt K mg) : ∃ fd, ∀ k, Fn P w K mg base "height_in" s_height_in (0 + k) ["binary"] (m_height_in k) fd := by
  obtain ⟨gl, fd, Fu⟩ := T.d_height_in
  refine ⟨fd, fun k => ?_⟩
  induction k with
  | zero => exact fn0 gl Fu _
  | succ k Gr =>
    exact okD gl Fu sc_height_in (cK []) (fun cdv A outer s H E hr =>
 (bOne (sRet (eFz (eIf (tCmpX op_isA (b_is false) (eVar (pv 0)) eNon (nomark _)) eInt (eFz (eOp op_addA b_add eInt (eCallB (call_max2 rfl) c_max2 rfl T.z_max B.max (aCons (eFz (eFn Gr hr rfl (fun _ _ _ _ _ _ us hl => match us, hl with | [_], _ => rfl) (aCons (eFz (eIx ix_seq b_ix (eVar (pv 0)) eInt (fun _ _ => rfl))) aNil) (fan_cons fan_nil))) (aCons (eFz (eFn Gr hr rfl (fun _ _ _ _ _ _ us hl => match us, hl with | [_], _ => rfl) (aCons (eFz (eIx ix_seq b_ix (eVar (pv 0)) eInt (fun _ _ => rfl))) aNil) (fan_cons fan_nil))) aNil))))))))))
/-! ### shortest_in -/
abbrev N_shortest_in : List Str := ["binary"]
theorem sc_shortest_in : FnScope N_shortest_in ["binary"] (defScope s_shortest_in) := ⟨rfl, rfl, rfl, by decide +kernel, rfl, by decide +kernel, by decide +kernel⟩
def b_shortest_in (r : FF) : FS :=
 (fRet (fFz (fIf (fTst (fBin (sIs false) (fV 0) (fC .non))) (fC (.int 0)) (fFz (fBin sAdd (fC (.int 1)) (fCall (s2 gMin2) (fCons (fFz (fCallF r (fCons (fFz (fBin sIx (fV 0) (fC (.int 0)))) fNil))) (fCons (fFz (fCallF r (fCons (fFz (fBin sIx (fV 0) (fC (.int 1)))) fNil))) fNil))))))))
def m_shortest_in : Nat → FF
  | 0 => fun _ => none
  | k + 1 => fnG 1 1 (cK []) (b_shortest_in (m_shortest_in k))
theorem ok_shortest_in (T : Txt K mg) : ∃ fd, ∀ k, Fn P w K mg base "shortest_in" s_shortest_in (0 + k) ["binary"] (m_shortest_in k) fd := by
  obtain ⟨gl, fd, Fu⟩ := T.d_shortest_in
  refine ⟨fd, fun k => ?_⟩
  induction k with
  | zero => exact fn0 gl Fu _
  | succ k Gr =>
    exact okD gl Fu sc_shortest_in (cK []) (fun cdv A outer s H E hr =>
 (bOne (sRet (eFz (eIf (tCmpX op_isA (b_is false) (eVar (pv 0)) eNon (nomark _)) eInt (eFz (eOp op_addA b_add eInt (eCallB (call_min2 rfl) c_min2 rfl T.z_min B.min (aCons (eFz (eFn Gr hr rfl (fun _ _ _ _ _ _ us hl => match us, hl with | [_], _ => rfl) (aCons (eFz (eIx ix_seq b_ix (eVar (pv 0)) eInt (fun _ _ => rfl))) aNil) (fan_cons fan_nil))) (aCons (eFz (eFn Gr hr rfl (fun _ _ _ _ _ _ us hl => match us, hl with | [_], _ => rfl) (aCons (eFz (eIx ix_seq b_ix (eVar (pv 0)) eInt (fun _ _ => rfl))) aNil) (fan_cons fan_nil))) aNil))))))))))
/-! ### fault_of -/
abbrev N_fault_of : List Str := ["binary", "node", "left", "right"]
theorem sc_fault_of : FnScope N_fault_of ["binary"] (defScope s_fault_of) := ⟨rfl, rfl, rfl, by decide +kernel, rfl, by decide +kernel, by decide +kernel⟩
def b_fault_of : FS :=
 (fSeq (fFor (fSeqI (fFz (fFz (fCallF (m_stretches_of 16) (fCons (fFz (fV 0)) (fCons (fC (.int 0)) fNil)))))) (gTupl 3 (gsCons (gN (cK []) 1) (gsCons (gN (cK []) 2) (gsCons (gN (cK []) 3) gsNil))))
 (fIfS (fTst (fBin sGt (fBin sAdd (fC (.int 1)) (fCall (s2 gMax2) (fCons (fFz (fCallF (m_height_in 16) (fCons (fFz (fV 2)) fNil))) (fCons (fFz (fCallF (m_height_in 16) (fCons (fFz (fV 3)) fNil))) fNil)))) (fBin sMul (fC (.int 2)) (fBin sAdd (fC (.int 1)) (fCall (s2 gMin2) (fCons (fFz (fCallF (m_shortest_in 16) (fCons (fFz (fV 2)) fNil))) (fCons (fFz (fCallF (m_shortest_in 16) (fCons (fFz (fV 3)) fNil))) fNil)))))))
 (fRet (fFz (fV 1)))
 fPass))
 (fRet (fC .non)))
def m_fault_of : FF := fnG 1 4 (cK []) b_fault_of
theorem ok_fault_of (T : Txt K mg) : ∃ fd, Fn P w K mg base "fault_of" s_fault_of 18 ["binary"] m_fault_of fd := by
  obtain ⟨gl, fd, Fu⟩ := T.d_fault_of
  obtain ⟨fd_stretches_of, G_stretches_of⟩ := ok_stretches_of (P := P) (w := w) (base := base) T
  obtain ⟨fd_height_in, G_height_in⟩ := ok_height_in (P := P) (w := w) (base := base) T
  obtain ⟨fd_shortest_in, G_shortest_in⟩ := ok_shortest_in (P := P) (w := w) (base := base) T
  exact ⟨fd, okD gl Fu sc_fault_of (cK []) (fun cdv A outer s H E hr =>
 (bCons (sFor PassesOwn.never rfl (iSeq (eFz (eFz (eFn (G_stretches_of 16) (hr.mono (by decide)) rfl (fun _ _ _ _ _ _ us hl => match us, hl with | [_, _], _ => rfl) (aCons (eFz (eVar (pv 0))) (aCons eInt aNil)) (fan_cons (fan_cons fan_nil)))))) (gTupX rfl (gsConsX (gName' (pg_name (i := 1) sc_fault_of.nd rfl (by first | exact .inl rfl | exact .inr rfl))) (gsConsX (gName' (pg_name (i := 2) sc_fault_of.nd rfl (by first | exact .inl rfl | exact .inr rfl))) (gsConsX (gName' (pg_name (i := 3) sc_fault_of.nd rfl (by first | exact .inl rfl | exact .inr rfl))) gsNilX))))
 (bOne (sIf (tCmpX op_gt b_I0 (eOp op_addA b_add eInt (eCallB (call_max2 rfl) c_max2 rfl T.z_max B.max (aCons (eFz (eFn (G_height_in 16) (hr.mono (by decide)) rfl (fun _ _ _ _ _ _ us hl => match us, hl with | [_], _ => rfl) (aCons (eFz (eVar (pv 2))) aNil) (fan_cons fan_nil))) (aCons (eFz (eFn (G_height_in 16) (hr.mono (by decide)) rfl (fun _ _ _ _ _ _ us hl => match us, hl with | [_], _ => rfl) (aCons (eFz (eVar (pv 3))) aNil) (fan_cons fan_nil))) aNil)))) (eOp op_mulA b_mul eInt (eOp op_addA b_add eInt (eCallB (call_min2 rfl) c_min2 rfl T.z_min B.min (aCons (eFz (eFn (G_shortest_in 16) (hr.mono (by decide)) rfl (fun _ _ _ _ _ _ us hl => match us, hl with | [_], _ => rfl) (aCons (eFz (eVar (pv 2))) aNil) (fan_cons fan_nil))) (aCons (eFz (eFn (G_shortest_in 16) (hr.mono (by decide)) rfl (fun _ _ _ _ _ _ us hl => match us, hl with | [_], _ => rfl) (aCons (eFz (eVar (pv 3))) aNil) (fan_cons fan_nil))) aNil))))) (nomark _))
 (bOne (sRet (eFz (eVar (pv 1)))))
 bNil)))
 (bOne (sRet eNon))))⟩
/-! ### color_break -/
abbrev N_color_break : List Str := ["binary"]
theorem sc_color_break : FnScope N_color_break ["binary"] (defScope s_color_break) := ⟨rfl, rfl, rfl, by decide +kernel, rfl, by decide +kernel, by decide +kernel⟩
def b_color_break : FS :=
 (fSeq (fExpr (fCallF m_check_binary (fCons (fFz (fV 0)) fNil)))
 (fRet (fFz (fFz (fCallF m_fault_of (fCons (fFz (fV 0)) fNil))))))
def m_color_break : FF := fnG 1 1 (cK []) b_color_break
theorem ok_color_break (T : Txt K mg) : ∃ fd, Fn P w K mg base "color_break" s_color_break 19 ["binary"] m_color_break fd := by
  obtain ⟨gl, fd, Fu⟩ := T.d_color_break
  obtain ⟨fd_check_binary, G_check_binary⟩ := ok_check_binary (P := P) (w := w) (base := base) T
  obtain ⟨fd_fault_of, G_fault_of⟩ := ok_fault_of (P := P) (w := w) (base := base) T
  exact ⟨fd, okD gl Fu sc_color_break (cK []) (fun cdv A outer s H E hr =>
 (bCons (sExpr (eFn G_check_binary (hr.mono (by decide)) rfl (fun _ _ _ _ _ _ us hl => match us, hl with | [_], _ => rfl) (aCons (eFz (eVar (pv 0))) aNil) (fan_cons fan_nil)))
 (bOne (sRet (eFz (eFz (eFn G_fault_of (hr.mono (by decide)) rfl (fun _ _ _ _ _ _ us hl => match us, hl with | [_], _ => rfl) (aCons (eFz (eVar (pv 0))) aNil) (fan_cons fan_nil))))))))⟩
/-! ### numbers_of -/
abbrev N_numbers_of : List Str := ["binary"]
theorem sc_numbers_of : FnScope N_numbers_of ["binary"] (defScope s_numbers_of) := ⟨rfl, rfl, rfl, by decide +kernel, rfl, by decide +kernel, by decide +kernel⟩
def b_numbers_of : FS :=
 (fSeq (fIfS (fTst (fBin (sIs true) (fFz (fCallF m_fault_of (fCons (fFz (fV 0)) fNil))) (fC .non)))
 (fRet (fFz (fLst fNil)))
 fPass)
 (fRet (fFz (fLRg (fR2 (fFz (fBin sDiv (fBin sAdd (fFz (fCallF (m_height_in 16) (fCons (fFz (fV 0)) fNil))) (fC (.int 1))) (fC (.int 2)))) (fFz (fBin sAdd (fFz (fCallF (m_shortest_in 16) (fCons (fFz (fV 0)) fNil))) (fC (.int 1)))))))))
def m_numbers_of : FF := fnG 1 1 (cK []) b_numbers_of
theorem ok_numbers_of (T : Txt K mg) : ∃ fd, Fn P w K mg base "numbers_of" s_numbers_of 19 ["binary"] m_numbers_of fd := by
  obtain ⟨gl, fd, Fu⟩ := T.d_numbers_of
  obtain ⟨fd_fault_of, G_fault_of⟩ := ok_fault_of (P := P) (w := w) (base := base) T
  obtain ⟨fd_height_in, G_height_in⟩ := ok_height_in (P := P) (w := w) (base := base) T
  obtain ⟨fd_shortest_in, G_shortest_in⟩ := ok_shortest_in (P := P) (w := w) (base := base) T
  exact ⟨fd, okD gl Fu sc_numbers_of (cK []) (fun cdv A outer s H E hr =>
 (bCons (sIf (tCmpX op_isNotA (b_is true) (eFz (eFn G_fault_of (hr.mono (by decide)) rfl (fun _ _ _ _ _ _ us hl => match us, hl with | [_], _ => rfl) (aCons (eFz (eVar (pv 0))) aNil) (fan_cons fan_nil))) eNon (nomark _))
 (bOne (sRet (eFz (eLst aNil))))
 bNil)
 (bOne (sRet (eFz (eLRg rfl rfl T.z_list (rX2 rfl T.z_range (eFz (eOp op_fdivW b_div (eOp op_addA b_add (eFz (eFn (G_height_in 16) (hr.mono (by decide)) rfl (fun _ _ _ _ _ _ us hl => match us, hl with | [_], _ => rfl) (aCons (eFz (eVar (pv 0))) aNil) (fan_cons fan_nil))) eInt) eInt)) (eFz (eOp op_addA b_add (eFz (eFn (G_shortest_in 16) (hr.mono (by decide)) rfl (fun _ _ _ _ _ _ us hl => match us, hl with | [_], _ => rfl) (aCons (eFz (eVar (pv 0))) aNil) (fan_cons fan_nil))) eInt)))))))))⟩
/-! ### black_heights -/
abbrev N_black_heights : List Str := ["binary"]
theorem sc_black_heights : FnScope N_black_heights ["binary"] (defScope s_black_heights) := ⟨rfl, rfl, rfl, by decide +kernel, rfl, by decide +kernel, by decide +kernel⟩
def b_black_heights : FS :=
 (fSeq (fExpr (fCallF m_check_binary (fCons (fFz (fV 0)) fNil)))
 (fRet (fFz (fCall (s1 gTuple) (fCons (fFz (fCallF m_numbers_of (fCons (fFz (fV 0)) fNil))) fNil)))))
def m_black_heights : FF := fnG 1 1 (cK []) b_black_heights
theorem ok_black_heights (T : Txt K mg) : ∃ fd, Fn P w K mg base "black_heights" s_black_heights 20 ["binary"] m_black_heights fd := by
  obtain ⟨gl, fd, Fu⟩ := T.d_black_heights
  obtain ⟨fd_check_binary, G_check_binary⟩ := ok_check_binary (P := P) (w := w) (base := base) T
  obtain ⟨fd_numbers_of, G_numbers_of⟩ := ok_numbers_of (P := P) (w := w) (base := base) T
  exact ⟨fd, okD gl Fu sc_black_heights (cK []) (fun cdv A outer s H E hr =>
 (bCons (sExpr (eFn G_check_binary (hr.mono (by decide)) rfl (fun _ _ _ _ _ _ us hl => match us, hl with | [_], _ => rfl) (aCons (eFz (eVar (pv 0))) aNil) (fan_cons fan_nil)))
 (bOne (sRet (eFz (eCallT call_tuple_of c_tuple rfl T.z_tuple B.tuple (aCons (eFz (eFn G_numbers_of (hr.mono (by decide)) rfl (fun _ _ _ _ _ _ us hl => match us, hl with | [_], _ => rfl) (aCons (eFz (eVar (pv 0))) aNil) (fan_cons fan_nil))) aNil)))))))⟩
/-! ### _law_same -/
abbrev N__law_same : List Str := ["told", "due", "k"]
theorem sc__law_same : FnScope N__law_same ["told", "due"] (defScope s__law_same) := ⟨rfl, rfl, rfl, by decide +kernel, rfl, by decide +kernel, by decide +kernel⟩
def b__law_same (r : FF) : FS :=
 (fSeq (fIfS (fOr (fTst (fBin (sIs false) (fV 1) (fC .non))) (fTru (fIsi "bool" (fV 1))))
 (fRet (fFz (fIf (fTst (fBin (sIs false) (fV 1) (fC .non))) (fBin (sIs false) (fV 0) (fC .non)) (fAndV (fIsi "bool" (fV 0)) (fBin (sEq false) (fBin (sIs false) (fV 0) (fC (.bl true))) (fBin (sIs false) (fV 1) (fC (.bl true))))))))
 fPass)
 (fSeq (fIfS (fTru (fIsi "int" (fV 1)))
 (fRet (fAndV (fIsi "int" (fV 0)) (fAndV (fNotV (fIsi "bool" (fV 0))) (fBin (sEq false) (fBin sSub (fCall (s1 gInt) (fCons (fV 0) fNil)) (fV 1)) (fC (.int 0))))))
 fPass)
 (fSeq (fIfS (fTru (fIsi "str" (fV 1)))
 (fRet (fAndV (fIsi "str" (fV 0)) (fAndV (fBin (sEq false) (fCall (s1 gLen) (fCons (fV 0) fNil)) (fCall (s1 gLen) (fCons (fV 1) fNil))) (fBin (sEq false) (fComp (fRg1 (fCons (fFz (fCall (s1 gLen) (fCons (fV 1) fNil))) fNil)) (gN (fun i => !(([("k", 2)] : List (Str × Nat)).map (·.2)).contains i) 2) (fTst (fBin (sEq true) (fSl (fV 0) (fOSome (fV 2)) (fOSome (fBin sAdd (fV 2) (fC (.int 1))))) (fBin sIx (fV 1) (fV 2)))) (fFz (fV 2)) [2]) (fLst fNil)))))
 fPass)
 (fSeq (fIfS (fTru (fIsi "dict" (fV 1)))
 fNever
 fPass)
 (fSeq (fIfS (fOr (fTst (fBin (sEq true) (fIsi "list" (fV 0)) (fIsi "list" (fV 1)))) (fTst (fBin (sEq true) (fIsi "tuple" (fV 0)) (fIsi "tuple" (fV 1)))))
 (fRet (fC (.bl false)))
 fPass)
 (fSeq (fIfS (fOr (fNot (fTru (fIsi2 "list" "tuple" (fV 0)))) (fTst (fBin (sEq true) (fCall (s1 gLen) (fCons (fV 0) fNil)) (fCall (s1 gLen) (fCons (fV 1) fNil)))))
 (fRet (fC (.bl false)))
 fPass)
 (fRet (fBin (sEq false) (fComp (fRg1 (fCons (fFz (fCall (s1 gLen) (fCons (fV 1) fNil))) fNil)) (gN (fun i => !(([("k", 2)] : List (Str × Nat)).map (·.2)).contains i) 2) (fNot (fTru (fFz (fCallF r (fCons (fFz (fBin sIx (fV 0) (fV 2))) (fCons (fFz (fBin sIx (fV 1) (fV 2))) fNil)))))) (fFz (fV 2)) [2]) (fLst fNil)))))))))
def m__law_same : Nat → FF
  | 0 => fun _ => none
  | k + 1 => fnG 2 3 (cK []) (b__law_same (m__law_same k))
theorem ok__law_same (T : Txt K mg) : ∃ fd, ∀ k, Fn P w K mg base "_law_same" s__law_same (0 + k) ["told", "due"] (m__law_same k) fd := by
  obtain ⟨gl, fd, Fu⟩ := T.d__law_same
  refine ⟨fd, fun k => ?_⟩
  induction k with
  | zero => exact fn0 gl Fu _
  | succ k Gr =>
    exact okD gl Fu sc__law_same (cK []) (fun cdv A outer s H E hr =>
 (bCons (sIf (PW.pt (wOr (tCmpX op_isA (b_is false) (eVar (pv 1)) eNon (nomark _)) (wOr1 (tTru (eIsi (T := "bool") (by decide) rfl T.z_isinstance (eVar (pv 1)) rfl T.z_bool B.bool)))))
 (bOne (sRet (eFz (eIf (tCmpX op_isA (b_is false) (eVar (pv 1)) eNon (nomark _)) (eCmp op_isA (b_is false) (eVar (pv 0)) eNon (nomark _)) (eAnd (eIsi (T := "bool") (by decide) rfl T.z_isinstance (eVar (pv 0)) rfl T.z_bool B.bool) (eOne (eCmp (op_eqA hr.units) (b_eq false) (eCmp op_isA (b_is false) (eVar (pv 0)) eBl (nomark _)) (eCmp op_isA (b_is false) (eVar (pv 1)) eBl (nomark _)) (nomark _))))))))
 bNil)
 (bCons (sIf (tTru (eIsi (T := "int") (by decide) rfl T.z_isinstance (eVar (pv 1)) rfl T.z_int B.int))
 (bOne (sRet (eAnd (eIsi (T := "int") (by decide) rfl T.z_isinstance (eVar (pv 0)) rfl T.z_int B.int) (eAnd (eNot (eIsi (T := "bool") (by decide) rfl T.z_isinstance (eVar (pv 0)) rfl T.z_bool B.bool)) (eOne (eCmp (op_eqA hr.units) (b_eq false) (eOp op_sub b_sub (eCallT call_int1 c_int rfl T.z_int B.int (aCons (eVar (pv 0)) aNil)) (eVar (pv 1))) eInt (nomark _)))))))
 bNil)
 (bCons (sIf (tTru (eIsi (T := "str") (by decide) rfl T.z_isinstance (eVar (pv 1)) rfl T.z_str B.str))
 (bOne (sRet (eAnd (eIsi (T := "str") (by decide) rfl T.z_isinstance (eVar (pv 0)) rfl T.z_str B.str) (eAnd (eCmp (op_eqA hr.units) (b_eq false) (eCallB call_len c_len rfl T.z_len PySem.boot_len (aCons (eVar (pv 0)) aNil)) (eCallB call_len c_len rfl T.z_len PySem.boot_len (aCons (eVar (pv 1)) aNil)) (nomark _)) (eOne (eCmp (op_eqA hr.units) (b_eq false) (eComp (own := [("k", 2)]) rfl sc__law_same.nd (iRg1 rfl T.z_range (aCons (eFz (eCallB call_len c_len rfl T.z_len PySem.boot_len (aCons (eVar (pv 1)) aNil))) aNil)) (blkOk_by (own := [("k", 2)]) (N := N__law_same) (sc := defScope s__law_same) (by decide +kernel)) (fun _ _ _ _ _ => (gName' (pg_name (i := 2) sc__law_same.nd rfl (by first | exact .inl rfl | exact .inr rfl)))) (fun _ _ _ _ _ => bIf (tCmpX (op_neA hr.units) (b_eq true) (eSl (eVar (pv 0)) (oSome (eVar (pv 2))) (oSome (eOp op_addA b_add (eVar (pv 2)) eInt))) (eIx ix_seq b_ix (eVar (pv 1)) (eVar (pv 2)) (fun _ _ => rfl)) (nomark _))) (fun _ _ _ _ _ => (eFz (eVar (pv 2))))) (eLst aNil) (nomark _)))))))
 bNil)
 (bCons (sIf (tTru (eIsi (T := "dict") (by decide) rfl T.z_isinstance (eVar (pv 1)) rfl T.z_dict B.dict))
 bNever
 bNil)
 (bCons (sIf (PW.pt (wOr (tCmpX (op_neA hr.units) (b_eq true) (eIsi (T := "list") (by decide) rfl T.z_isinstance (eVar (pv 0)) rfl T.z_list B.list) (eIsi (T := "list") (by decide) rfl T.z_isinstance (eVar (pv 1)) rfl T.z_list B.list) (nomark _)) (wOr1 (tCmpX (op_neA hr.units) (b_eq true) (eIsi (T := "tuple") (by decide) rfl T.z_isinstance (eVar (pv 0)) rfl T.z_tuple B.tuple) (eIsi (T := "tuple") (by decide) rfl T.z_isinstance (eVar (pv 1)) rfl T.z_tuple B.tuple) (nomark _)))))
 (bOne (sRet eBl))
 bNil)
 (bCons (sIf (PW.pt (wOr (tNotX (tTru (eIsi2 (T := "list") (U := "tuple") (by decide) (by decide) rfl T.z_isinstance (eVar (pv 0)) rfl T.z_list B.list rfl T.z_tuple B.tuple))) (wOr1 (tCmpX (op_neA hr.units) (b_eq true) (eCallB call_len c_len rfl T.z_len PySem.boot_len (aCons (eVar (pv 0)) aNil)) (eCallB call_len c_len rfl T.z_len PySem.boot_len (aCons (eVar (pv 1)) aNil)) (nomark _)))))
 (bOne (sRet eBl))
 bNil)
 (bOne (sRet (eCmp (op_eqA hr.units) (b_eq false) (eComp (own := [("k", 2)]) rfl sc__law_same.nd (iRg1 rfl T.z_range (aCons (eFz (eCallB call_len c_len rfl T.z_len PySem.boot_len (aCons (eVar (pv 1)) aNil))) aNil)) (blkOk_by (own := [("k", 2)]) (N := N__law_same) (sc := defScope s__law_same) (by decide +kernel)) (fun _ _ _ _ _ => (gName' (pg_name (i := 2) sc__law_same.nd rfl (by first | exact .inl rfl | exact .inr rfl)))) (fun _ _ _ _ _ => bIf (tNotX (tTru (eFz (eFn Gr hr rfl (fun _ _ _ _ _ _ us hl => match us, hl with | [_, _], _ => rfl) (aCons (eFz (eIx ix_seq b_ix (eVar (pv 0)) (eVar (pv 2)) (fun _ _ => rfl))) (aCons (eFz (eIx ix_seq b_ix (eVar (pv 1)) (eVar (pv 2)) (fun _ _ => rfl))) aNil)) (fan_cons (fan_cons fan_nil))))))) (fun _ _ _ _ _ => (eFz (eVar (pv 2))))) (eLst aNil) (nomark _)))))))))))
/-! ### height_of -/
abbrev N_height_of : List Str := ["binary", "row", "found", "here", "child"]
theorem sc_height_of : FnScope N_height_of ["binary"] (defScope s_height_of) := ⟨rfl, rfl, rfl, by decide +kernel, rfl, by decide +kernel, by decide +kernel⟩
def b_height_of : FS :=
 (fSeq (gPar (cK []) 1 2 (fCons (fFz (fLst (fCons (fFz (fV 0)) fNil))) (fCons (fC (.int 0)) fNil)))
 (fSeq (fWhile (fTst (fBin (sEq true) (fComp (fSeqI (fFz (fV 1))) (gN (fun i => !(([("here", 3)] : List (Str × Nat)).map (·.2)).contains i) 3) (fTst (fBin (sIs true) (fV 3) (fC .non))) (fFz (fV 3)) [3]) (fLst fNil))) (gPar (cK []) 1 2 (fCons (fFz (fComp2 (fSeqI (fFz (fV 1))) (gN (fun i => !(([("here", 3), ("child", 4)] : List (Str × Nat)).map (·.2)).contains i) 3) (fTst (fBin (sIs true) (fV 3) (fC .non))) (fSeqI (fFz (fV 3))) (gN (cNt [4]) 4) fYes (fFz (fV 4)) [3, 4] [4])) (fCons (fFz (fBin sAdd (fV 2) (fC (.int 1)))) fNil))) 1000)
 (fRet (fFz (fV 2)))))
def m_height_of : FF := fnG 1 5 (cK []) b_height_of
theorem ok_height_of (T : Txt K mg) : ∃ fd, Fn P w K mg base "height_of" s_height_of 1 ["binary"] m_height_of fd := by
  obtain ⟨gl, fd, Fu⟩ := T.d_height_of
  exact ⟨fd, okD gl Fu sc_height_of (cK []) (fun cdv A outer s H E hr =>
 (bCons (sPar (i := 1) (j := 2) rfl sc_height_of.nd rfl rfl (by decide) rfl rfl (aCons (eFz (eLst (aCons (eFz (eVar (pv 0))) aNil))) (aCons eInt aNil)) rfl)
 (bCons (sWhile 1000 PassesOwn.never (tCmpX (op_neA hr.units) (b_eq true) (eComp (own := [("here", 3)]) rfl sc_height_of.nd (iSeq (eFz (eVar (pv 1)))) (blkOk_by (own := [("here", 3)]) (N := N_height_of) (sc := defScope s_height_of) (by decide +kernel)) (fun _ _ _ _ _ => (gName' (pg_name (i := 3) sc_height_of.nd rfl (by first | exact .inl rfl | exact .inr rfl)))) (fun _ _ _ _ _ => bIf (tCmpX op_isNotA (b_is true) (eVar (pv 3)) eNon (nomark _))) (fun _ _ _ _ _ => (eFz (eVar (pv 3))))) (eLst aNil) (nomark _))
 (bOne (sPar (i := 1) (j := 2) rfl sc_height_of.nd rfl rfl (by decide) rfl rfl (aCons (eFz (eComp2 (own := [("here", 3), ("child", 4)]) (vs1 := [4]) rfl sc_height_of.nd (iSeq (eFz (eVar (pv 1)))) (blkOk_by (own := [("here", 3), ("child", 4)]) (N := N_height_of) (sc := defScope s_height_of) (by decide +kernel)) (by decide) (fun _ _ _ _ _ => (gName' (pg_name (i := 3) sc_height_of.nd rfl (by first | exact .inl rfl | exact .inr rfl)))) (fun _ _ _ _ _ => bIf (tCmpX op_isNotA (b_is true) (eVar (pv 3)) eNon (nomark _))) (fun _ _ _ _ _ => (iSeq (eFz (eVar (pv 3))))) (fun _ _ _ _ _ => (gName' (pg_name (i := 4) sc_height_of.nd rfl (by first | exact .inl rfl | exact .inr rfl)))) (fun _ _ _ _ _ => bYes) (fun _ _ _ _ _ => (eFz (eVar (pv 4)))))) (aCons (eFz (eOp op_addA b_add (eVar (pv 2)) eInt)) aNil)) rfl)))
 (bOne (sRet (eFz (eVar (pv 2))))))))⟩
/-! ### binary_height -/
abbrev N_binary_height : List Str := ["binary"]
theorem sc_binary_height : FnScope N_binary_height ["binary"] (defScope s_binary_height) := ⟨rfl, rfl, rfl, by decide +kernel, rfl, by decide +kernel, by decide +kernel⟩
def b_binary_height : FS :=
 (fSeq (fExpr (fCallF m_check_binary (fCons (fFz (fV 0)) fNil)))
 (fRet (fFz (fFz (fCallF m_height_of (fCons (fFz (fV 0)) fNil))))))
def m_binary_height : FF := fnG 1 1 (cK []) b_binary_height
theorem ok_binary_height (T : Txt K mg) : ∃ fd, Fn P w K mg base "binary_height" s_binary_height 3 ["binary"] m_binary_height fd := by
  obtain ⟨gl, fd, Fu⟩ := T.d_binary_height
  obtain ⟨fd_check_binary, G_check_binary⟩ := ok_check_binary (P := P) (w := w) (base := base) T
  obtain ⟨fd_height_of, G_height_of⟩ := ok_height_of (P := P) (w := w) (base := base) T
  exact ⟨fd, okD gl Fu sc_binary_height (cK []) (fun cdv A outer s H E hr =>
 (bCons (sExpr (eFn G_check_binary (hr.mono (by decide)) rfl (fun _ _ _ _ _ _ us hl => match us, hl with | [_], _ => rfl) (aCons (eFz (eVar (pv 0))) aNil) (fan_cons fan_nil)))
 (bOne (sRet (eFz (eFz (eFn G_height_of (hr.mono (by decide)) rfl (fun _ _ _ _ _ _ us hl => match us, hl with | [_], _ => rfl) (aCons (eFz (eVar (pv 0))) aNil) (fan_cons fan_nil))))))))⟩
/-! ### colored -/
abbrev N_colored : List Str := ["binary", "number", "color", "left", "rows", "child"]
theorem sc_colored : FnScope N_colored ["binary", "number", "color"] (defScope s_colored) := ⟨rfl, rfl, rfl, by decide +kernel, rfl, by decide +kernel, by decide +kernel⟩
def b_colored (r : FF) : FS :=
 (fSeq (fIfS (fTst (fBin (sIs false) (fV 0) (fC .non)))
 (fRet (fFz (fTup fNil)))
 fPass)
 (fSeq (fAsg (fFz (fBin sSub (fV 1) (fCall (s1 gInt) (fCons (fBin (sEq false) (fV 2) (fC (.str "black"))) fNil)))) (gN (cK []) 3))
 (fSeq (fAsg (fLst fNil) (gN (cK []) 4))
 (fSeq (fFor (fSeqI (fFz (fV 0))) (gN (cK []) 5)
 (fExpr (fMt sApp (fV 4) (fCons (fCallF r (fCons (fFz (fV 5)) (fCons (fFz (fV 3)) (fCons (fFz (fIf (fTst (fBin sLe (fFz (fCallF (m_height_in 16) (fCons (fFz (fV 5)) fNil))) (fBin sMul (fC (.int 2)) (fV 3)))) (fFz (fC (.str "black"))) (fFz (fC (.str "red"))))) fNil)))) fNil))))
 (fRet (fFz (fBin sAdd (fBin sAdd (fBin sIx (fV 4) (fC (.int 0))) (fTup (fCons (fFz (fV 2)) fNil))) (fBin sIx (fV 4) (fC (.int 1))))))))))
def m_colored : Nat → FF
  | 0 => fun _ => none
  | k + 1 => fnG 3 6 (cK []) (b_colored (m_colored k))
theorem ok_colored (T : Txt K mg) : ∃ fd, ∀ k, Fn P w K mg base "colored" s_colored (16 + k) ["binary", "number", "color"] (m_colored k) fd := by
  obtain ⟨gl, fd, Fu⟩ := T.d_colored
  obtain ⟨fd_height_in, G_height_in⟩ := ok_height_in (P := P) (w := w) (base := base) T
  refine ⟨fd, fun k => ?_⟩
  induction k with
  | zero => exact fn0 gl Fu _
  | succ k Gr =>
    exact okD gl Fu sc_colored (cK []) (fun cdv A outer s H E hr =>
 (bCons (sIf (tCmpX op_isA (b_is false) (eVar (pv 0)) eNon (nomark _))
 (bOne (sRet (eFz (eTup aNil))))
 bNil)
 (bCons (sSet (i := 3) sc_colored.nd rfl (by first | exact .inl rfl | exact .inr rfl) (eFz (eOp op_sub b_sub (eVar (pv 1)) (eCallT call_int1 c_int rfl T.z_int B.int (aCons (eCmp (op_eqA hr.units) (b_eq false) (eVar (pv 2)) (eKs rfl T.c_BLACK) (nomark _)) aNil)))))
 (bCons (sSet (i := 4) sc_colored.nd rfl (by first | exact .inl rfl | exact .inr rfl) (eLst aNil))
 (bCons (sFor PassesOwn.never rfl (iSeq (eFz (eVar (pv 0)))) (gName' (pg_name (i := 5) sc_colored.nd rfl (by first | exact .inl rfl | exact .inr rfl)))
 (bOne (sExpr (eMt PySem.F.plainAttrs_list PySem.F.slot_list_append PySem.F.type_list_append mt_append m_app (eVar (pv 4)) (aCons (eFn Gr hr rfl (fun _ _ _ _ _ _ us hl => match us, hl with | [_, _, _], _ => rfl) (aCons (eFz (eVar (pv 5))) (aCons (eFz (eVar (pv 3))) (aCons (eFz (eIf (tCmpX op_le b_I0 (eFz (eFn (G_height_in 16) (hr.mono (Nat.le_trans (by decide : 16 ≤ 16) (Nat.le_add_right 16 k))) rfl (fun _ _ _ _ _ _ us hl => match us, hl with | [_], _ => rfl) (aCons (eFz (eVar (pv 5))) aNil) (fan_cons fan_nil))) (eOp op_mulA b_mul eInt (eVar (pv 3))) (nomark _)) (eFz (eKs rfl T.c_BLACK)) (eFz (eKs rfl T.c_RED)))) aNil))) (fan_cons (fan_cons (fan_cons fan_nil)))) aNil)))))
 (bOne (sRet (eFz (eOp op_addA b_add (eOp op_addA b_add (eIx ix_seq b_ix (eVar (pv 4)) eInt (fun _ _ => rfl)) (eTup (aCons (eFz (eVar (pv 2))) aNil))) (eIx ix_seq b_ix (eVar (pv 4)) eInt (fun _ _ => rfl)))))))))))
/-! ### coloring_of -/
abbrev N_coloring_of : List Str := ["binary", "numbers"]
theorem sc_coloring_of : FnScope N_coloring_of ["binary"] (defScope s_coloring_of) := ⟨rfl, rfl, rfl, by decide +kernel, rfl, by decide +kernel, by decide +kernel⟩
def b_coloring_of : FS :=
 (fSeq (fExpr (fCallF m_check_binary (fCons (fFz (fV 0)) fNil)))
 (fSeq (fAsg (fFz (fFz (fCallF m_numbers_of (fCons (fFz (fV 0)) fNil)))) (gN (cK []) 1))
 (fRet (fFz (fIf (fTst (fBin (sEq true) (fV 1) (fLst fNil))) (fFz (fFz (fCallF (m_colored 16) (fCons (fFz (fV 0)) (fCons (fFz (fBin sIx (fV 1) (fC (.int 0)))) (fCons (fFz (fC (.str "black"))) fNil)))))) (fC .non))))))
def m_coloring_of : FF := fnG 1 2 (cK []) b_coloring_of
theorem ok_coloring_of (T : Txt K mg) : ∃ fd, Fn P w K mg base "coloring_of" s_coloring_of 33 ["binary"] m_coloring_of fd := by
  obtain ⟨gl, fd, Fu⟩ := T.d_coloring_of
  obtain ⟨fd_check_binary, G_check_binary⟩ := ok_check_binary (P := P) (w := w) (base := base) T
  obtain ⟨fd_numbers_of, G_numbers_of⟩ := ok_numbers_of (P := P) (w := w) (base := base) T
  obtain ⟨fd_colored, G_colored⟩ := ok_colored (P := P) (w := w) (base := base) T
  exact ⟨fd, okD gl Fu sc_coloring_of (cK []) (fun cdv A outer s H E hr =>
 (bCons (sExpr (eFn G_check_binary (hr.mono (by decide)) rfl (fun _ _ _ _ _ _ us hl => match us, hl with | [_], _ => rfl) (aCons (eFz (eVar (pv 0))) aNil) (fan_cons fan_nil)))
 (bCons (sSet (i := 1) sc_coloring_of.nd rfl (by first | exact .inl rfl | exact .inr rfl) (eFz (eFz (eFn G_numbers_of (hr.mono (by decide)) rfl (fun _ _ _ _ _ _ us hl => match us, hl with | [_], _ => rfl) (aCons (eFz (eVar (pv 0))) aNil) (fan_cons fan_nil)))))
 (bOne (sRet (eFz (eIf (tCmpX (op_neA hr.units) (b_eq true) (eVar (pv 1)) (eLst aNil) (nomark _)) (eFz (eFz (eFn (G_colored 16) (hr.mono (by decide)) rfl (fun _ _ _ _ _ _ us hl => match us, hl with | [_, _, _], _ => rfl) (aCons (eFz (eVar (pv 0))) (aCons (eFz (eIx ix_seq b_ix (eVar (pv 1)) eInt (fun _ _ => rfl))) (aCons (eFz (eKs rfl T.c_BLACK)) aNil))) (fan_cons (fan_cons (fan_cons fan_nil)))))) eNon)))))))⟩
/-! ### _law_size -/
abbrev N__law_size : List Str := ["binary"]
theorem sc__law_size : FnScope N__law_size ["binary"] (defScope s__law_size) := ⟨rfl, rfl, rfl, by decide +kernel, rfl, by decide +kernel, by decide +kernel⟩
def b__law_size (r : FF) : FS :=
 (fRet (fFz (fIf (fTst (fBin (sIs false) (fV 0) (fC .non))) (fC (.int 0)) (fFz (fBin sAdd (fBin sAdd (fC (.int 1)) (fFz (fCallF r (fCons (fFz (fBin sIx (fV 0) (fC (.int 0)))) fNil)))) (fFz (fCallF r (fCons (fFz (fBin sIx (fV 0) (fC (.int 1)))) fNil))))))))
def m__law_size : Nat → FF
  | 0 => fun _ => none
  | k + 1 => fnG 1 1 (cK []) (b__law_size (m__law_size k))
theorem ok__law_size (T : Txt K mg) : ∃ fd, ∀ k, Fn P w K mg base "_law_size" s__law_size (0 + k) ["binary"] (m__law_size k) fd := by
  obtain ⟨gl, fd, Fu⟩ := T.d__law_size
  refine ⟨fd, fun k => ?_⟩
  induction k with
  | zero => exact fn0 gl Fu _
  | succ k Gr =>
    exact okD gl Fu sc__law_size (cK []) (fun cdv A outer s H E hr =>
 (bOne (sRet (eFz (eIf (tCmpX op_isA (b_is false) (eVar (pv 0)) eNon (nomark _)) eInt (eFz (eOp op_addA b_add (eOp op_addA b_add eInt (eFz (eFn Gr hr rfl (fun _ _ _ _ _ _ us hl => match us, hl with | [_], _ => rfl) (aCons (eFz (eIx ix_seq b_ix (eVar (pv 0)) eInt (fun _ _ => rfl))) aNil) (fan_cons fan_nil)))) (eFz (eFn Gr hr rfl (fun _ _ _ _ _ _ us hl => match us, hl with | [_], _ => rfl) (aCons (eFz (eIx ix_seq b_ix (eVar (pv 0)) eInt (fun _ _ => rfl))) aNil) (fan_cons fan_nil))))))))))
/-! ### _law_blacks -/
abbrev N__law_blacks : List Str := ["binary", "colors", "first", "parent", "node", "one", "other"]
theorem sc__law_blacks : FnScope N__law_blacks ["binary", "colors", "first", "parent"] (defScope s__law_blacks) := ⟨rfl, rfl, rfl, by decide +kernel, rfl, by decide +kernel, by decide +kernel⟩
def b__law_blacks (r : FF) : FS :=
 (fSeq (fIfS (fTst (fBin (sIs false) (fV 0) (fC .non)))
 (fRet (fC (.int 0)))
 fPass)
 (fSeq (fAsg (fFz (fBin sAdd (fV 2) (fFz (fCallF (m__law_size 16) (fCons (fFz (fBin sIx (fV 0) (fC (.int 0)))) fNil))))) (gN (cK []) 4))
 (fSeq (fIfS (fAnd (fTst (fBin (sEq false) (fBin sIx (fV 1) (fV 4)) (fC (.str "red")))) (fTst (fBin (sEq false) (fV 3) (fC (.str "red")))))
 (fRet (fC .non))
 fPass)
 (fSeq (fAsg (fFz (fFz (fCallF r (fCons (fFz (fBin sIx (fV 0) (fC (.int 0)))) (fCons (fFz (fV 1)) (fCons (fFz (fV 2)) (fCons (fFz (fBin sIx (fV 1) (fV 4))) fNil))))))) (gN (cK []) 5))
 (fSeq (fAsg (fFz (fFz (fCallF r (fCons (fFz (fBin sIx (fV 0) (fC (.int 1)))) (fCons (fFz (fV 1)) (fCons (fFz (fBin sAdd (fV 4) (fC (.int 1)))) (fCons (fFz (fBin sIx (fV 1) (fV 4))) fNil))))))) (gN (cK []) 6))
 (fSeq (fIfS (fOr (fTst (fBin (sIs false) (fV 5) (fC .non))) (fTst (fBin (sEq true) (fV 5) (fV 6))))
 (fRet (fC .non))
 fPass)
 (fRet (fFz (fBin sAdd (fV 5) (fCall (s1 gInt) (fCons (fBin (sEq false) (fBin sIx (fV 1) (fV 4)) (fC (.str "black"))) fNil)))))))))))
def m__law_blacks : Nat → FF
  | 0 => fun _ => none
  | k + 1 => fnG 4 7 (cK []) (b__law_blacks (m__law_blacks k))
theorem ok__law_blacks (T : Txt K mg) : ∃ fd, ∀ k, Fn P w K mg base "_law_blacks" s__law_blacks (16 + k) ["binary", "colors", "first", "parent"] (m__law_blacks k) fd := by
  obtain ⟨gl, fd, Fu⟩ := T.d__law_blacks
  obtain ⟨fd__law_size, G__law_size⟩ := ok__law_size (P := P) (w := w) (base := base) T
  refine ⟨fd, fun k => ?_⟩
  induction k with
  | zero => exact fn0 gl Fu _
  | succ k Gr =>
    exact okD gl Fu sc__law_blacks (cK []) (fun cdv A outer s H E hr =>
 (bCons (sIf (tCmpX op_isA (b_is false) (eVar (pv 0)) eNon (nomark _))
 (bOne (sRet eInt))
 bNil)
 (bCons (sSet (i := 4) sc__law_blacks.nd rfl (by first | exact .inl rfl | exact .inr rfl) (eFz (eOp op_addA b_add (eVar (pv 2)) (eFz (eFn (G__law_size 16) (hr.mono (Nat.le_trans (by decide : 16 ≤ 16) (Nat.le_add_right 16 k))) rfl (fun _ _ _ _ _ _ us hl => match us, hl with | [_], _ => rfl) (aCons (eFz (eIx ix_seq b_ix (eVar (pv 0)) eInt (fun _ _ => rfl))) aNil) (fan_cons fan_nil))))))
 (bCons (sIf (PW.pt (wAnd (tCmpX (op_eqA hr.units) (b_eq false) (eIx ix_seq b_ix (eVar (pv 1)) (eVar (pv 4)) (fun _ _ => rfl)) eStr (nomark _)) (wAnd1 (tCmpX (op_eqA hr.units) (b_eq false) (eVar (pv 3)) eStr (nomark _)))))
 (bOne (sRet eNon))
 bNil)
 (bCons (sSet (i := 5) sc__law_blacks.nd rfl (by first | exact .inl rfl | exact .inr rfl) (eFz (eFz (eFn Gr hr rfl (fun _ _ _ _ _ _ us hl => match us, hl with | [_, _, _, _], _ => rfl) (aCons (eFz (eIx ix_seq b_ix (eVar (pv 0)) eInt (fun _ _ => rfl))) (aCons (eFz (eVar (pv 1))) (aCons (eFz (eVar (pv 2))) (aCons (eFz (eIx ix_seq b_ix (eVar (pv 1)) (eVar (pv 4)) (fun _ _ => rfl))) aNil)))) (fan_cons (fan_cons (fan_cons (fan_cons fan_nil))))))))
 (bCons (sSet (i := 6) sc__law_blacks.nd rfl (by first | exact .inl rfl | exact .inr rfl) (eFz (eFz (eFn Gr hr rfl (fun _ _ _ _ _ _ us hl => match us, hl with | [_, _, _, _], _ => rfl) (aCons (eFz (eIx ix_seq b_ix (eVar (pv 0)) eInt (fun _ _ => rfl))) (aCons (eFz (eVar (pv 1))) (aCons (eFz (eOp op_addA b_add (eVar (pv 4)) eInt)) (aCons (eFz (eIx ix_seq b_ix (eVar (pv 1)) (eVar (pv 4)) (fun _ _ => rfl))) aNil)))) (fan_cons (fan_cons (fan_cons (fan_cons fan_nil))))))))
 (bCons (sIf (PW.pt (wOr (tCmpX op_isA (b_is false) (eVar (pv 5)) eNon (nomark _)) (wOr1 (tCmpX (op_neA hr.units) (b_eq true) (eVar (pv 5)) (eVar (pv 6)) (nomark _)))))
 (bOne (sRet eNon))
 bNil)
 (bOne (sRet (eFz (eOp op_addA b_add (eVar (pv 5)) (eCallT call_int1 c_int rfl T.z_int B.int (aCons (eCmp (op_eqA hr.units) (b_eq false) (eIx ix_seq b_ix (eVar (pv 1)) (eVar (pv 4)) (fun _ _ => rfl)) eStr (nomark _)) aNil)))))))))))))
/-! ### _law_shown -/
abbrev N__law_shown : List Str := ["binary", "value", "many", "one"]
theorem sc__law_shown : FnScope N__law_shown ["binary", "value"] (defScope s__law_shown) := ⟨rfl, rfl, rfl, by decide +kernel, rfl, by decide +kernel, by decide +kernel⟩
def b__law_shown : FS :=
 (fSeq (fAsg (fFz (fFz (fCallF (m__law_size 16) (fCons (fFz (fV 0)) fNil)))) (gN (cK []) 2))
 (fSeq (fIfS (fOr (fNot (fTru (fIsi "tuple" (fV 1)))) (fOr (fTst (fBin (sEq true) (fCall (s1 gLen) (fCons (fV 1) fNil)) (fV 2))) (fTst (fBin (sEq true) (fComp (fSeqI (fFz (fV 1))) (gN (fun i => !(([("one", 3)] : List (Str × Nat)).map (·.2)).contains i) 3) (fOr (fNot (fTru (fIsi "str" (fV 3)))) (fTst (fBin (sIn true) (fV 3) (fTup (fCons (fC (.str "red")) (fCons (fC (.str "black")) fNil)))))) (fFz (fV 3)) [3]) (fLst fNil)))))
 (fRet (fC (.bl false)))
 fPass)
 (fSeq (fIfS (fTst (fBin (sEq false) (fV 2) (fC (.int 0))))
 (fRet (fC (.bl true)))
 fPass)
 (fRet (fAndV (fBin (sEq false) (fBin sIx (fV 1) (fFz (fCallF (m__law_size 16) (fCons (fFz (fBin sIx (fV 0) (fC (.int 0)))) fNil)))) (fC (.str "black"))) (fBin (sIs true) (fFz (fCallF (m__law_blacks 16) (fCons (fFz (fV 0)) (fCons (fFz (fV 1)) (fCons (fC (.int 0)) (fCons (fC (.str "black")) fNil)))))) (fC .non)))))))
def m__law_shown : FF := fnG 2 4 (cK []) b__law_shown
theorem ok__law_shown (T : Txt K mg) : ∃ fd, Fn P w K mg base "_law_shown" s__law_shown 33 ["binary", "value"] m__law_shown fd := by
  obtain ⟨gl, fd, Fu⟩ := T.d__law_shown
  obtain ⟨fd__law_size, G__law_size⟩ := ok__law_size (P := P) (w := w) (base := base) T
  obtain ⟨fd__law_blacks, G__law_blacks⟩ := ok__law_blacks (P := P) (w := w) (base := base) T
  exact ⟨fd, okD gl Fu sc__law_shown (cK []) (fun cdv A outer s H E hr =>
 (bCons (sSet (i := 2) sc__law_shown.nd rfl (by first | exact .inl rfl | exact .inr rfl) (eFz (eFz (eFn (G__law_size 16) (hr.mono (by decide)) rfl (fun _ _ _ _ _ _ us hl => match us, hl with | [_], _ => rfl) (aCons (eFz (eVar (pv 0))) aNil) (fan_cons fan_nil)))))
 (bCons (sIf (PW.pt (wOr (tNotX (tTru (eIsi (T := "tuple") (by decide) rfl T.z_isinstance (eVar (pv 1)) rfl T.z_tuple B.tuple))) (wOr (tCmpX (op_neA hr.units) (b_eq true) (eCallB call_len c_len rfl T.z_len PySem.boot_len (aCons (eVar (pv 1)) aNil)) (eVar (pv 2)) (nomark _)) (wOr1 (tCmpX (op_neA hr.units) (b_eq true) (eComp (own := [("one", 3)]) rfl sc__law_shown.nd (iSeq (eFz (eVar (pv 1)))) (blkOk_by (own := [("one", 3)]) (N := N__law_shown) (sc := defScope s__law_shown) (by decide +kernel)) (fun _ _ _ _ _ => (gName' (pg_name (i := 3) sc__law_shown.nd rfl (by first | exact .inl rfl | exact .inr rfl)))) (fun _ _ _ _ _ => bIf (PW.pt (wOr (tNotX (tTru (eIsi (T := "str") (by decide) rfl T.z_isinstance (eVar (pv 3)) rfl T.z_str B.str))) (wOr1 (tCmpX (op_notInP hr.units) (b_in true) (eVar (pv 3)) (eTup (aCons eStr (aCons eStr aNil))) (by rfl)))))) (fun _ _ _ _ _ => (eFz (eVar (pv 3))))) (eLst aNil) (nomark _))))))
 (bOne (sRet eBl))
 bNil)
 (bCons (sIf (tCmpX (op_eqA hr.units) (b_eq false) (eVar (pv 2)) eInt (nomark _))
 (bOne (sRet eBl))
 bNil)
 (bOne (sRet (eAnd (eCmp (op_eqA hr.units) (b_eq false) (eIx ix_seq b_ix (eVar (pv 1)) (eFz (eFn (G__law_size 16) (hr.mono (by decide)) rfl (fun _ _ _ _ _ _ us hl => match us, hl with | [_], _ => rfl) (aCons (eFz (eIx ix_seq b_ix (eVar (pv 0)) eInt (fun _ _ => rfl))) aNil) (fan_cons fan_nil))) (fun _ _ => rfl)) eStr (nomark _)) (eOne (eCmp op_isNotA (b_is true) (eFz (eFn (G__law_blacks 16) (hr.mono (by decide)) rfl (fun _ _ _ _ _ _ us hl => match us, hl with | [_, _, _, _], _ => rfl) (aCons (eFz (eVar (pv 0))) (aCons (eFz (eVar (pv 1))) (aCons eInt (aCons eStr aNil)))) (fan_cons (fan_cons (fan_cons (fan_cons fan_nil)))))) eNon (nomark _))))))))))⟩
/-! ### nodes_in -/
abbrev N_nodes_in : List Str := ["binary"]
theorem sc_nodes_in : FnScope N_nodes_in ["binary"] (defScope s_nodes_in) := ⟨rfl, rfl, rfl, by decide +kernel, rfl, by decide +kernel, by decide +kernel⟩
def b_nodes_in (r : FF) : FS :=
 (fRet (fFz (fIf (fTst (fBin (sIs false) (fV 0) (fC .non))) (fC (.int 0)) (fFz (fBin sAdd (fBin sAdd (fC (.int 1)) (fFz (fCallF r (fCons (fFz (fBin sIx (fV 0) (fC (.int 0)))) fNil)))) (fFz (fCallF r (fCons (fFz (fBin sIx (fV 0) (fC (.int 1)))) fNil))))))))
def m_nodes_in : Nat → FF
  | 0 => fun _ => none
  | k + 1 => fnG 1 1 (cK []) (b_nodes_in (m_nodes_in k))
theorem ok_nodes_in (T : Txt K mg) : ∃ fd, ∀ k, Fn P w K mg base "nodes_in" s_nodes_in (0 + k) ["binary"] (m_nodes_in k) fd := by
  obtain ⟨gl, fd, Fu⟩ := T.d_nodes_in
  refine ⟨fd, fun k => ?_⟩
  induction k with
  | zero => exact fn0 gl Fu _
  | succ k Gr =>
    exact okD gl Fu sc_nodes_in (cK []) (fun cdv A outer s H E hr =>
 (bOne (sRet (eFz (eIf (tCmpX op_isA (b_is false) (eVar (pv 0)) eNon (nomark _)) eInt (eFz (eOp op_addA b_add (eOp op_addA b_add eInt (eFz (eFn Gr hr rfl (fun _ _ _ _ _ _ us hl => match us, hl with | [_], _ => rfl) (aCons (eFz (eIx ix_seq b_ix (eVar (pv 0)) eInt (fun _ _ => rfl))) aNil) (fan_cons fan_nil)))) (eFz (eFn Gr hr rfl (fun _ _ _ _ _ _ us hl => match us, hl with | [_], _ => rfl) (aCons (eFz (eIx ix_seq b_ix (eVar (pv 0)) eInt (fun _ _ => rfl))) aNil) (fan_cons fan_nil))))))))))
/-! ### has_red_pair -/
abbrev N_has_red_pair : List Str := ["binary", "colors", "pairs", "node", "left", "right", "child"]
theorem sc_has_red_pair : FnScope N_has_red_pair ["binary", "colors"] (defScope s_has_red_pair) := ⟨rfl, rfl, rfl, by decide +kernel, rfl, by decide +kernel, by decide +kernel⟩
def b_has_red_pair : FS :=
 (fSeq (fAsg (fLst fNil) (gN (cK []) 2))
 (fSeq (fFor (fSeqI (fFz (fFz (fCallF (m_stretches_of 16) (fCons (fFz (fV 0)) (fCons (fC (.int 0)) fNil)))))) (gTupl 3 (gsCons (gN (cK []) 3) (gsCons (gN (cK []) 4) (gsCons (gN (cK []) 5) gsNil))))
 (fSeq (fIfS (fTst (fBin (sIs true) (fV 4) (fC .non)))
 (fExpr (fMt sApp (fV 2) (fCons (fTup (fCons (fFz (fV 3)) (fCons (fFz (fBin sSub (fBin sSub (fV 3) (fC (.int 1))) (fFz (fCallF (m_nodes_in 16) (fCons (fFz (fBin sIx (fV 4) (fC (.int 1)))) fNil))))) fNil))) fNil)))
 fPass)
 (fIfS (fTst (fBin (sIs true) (fV 5) (fC .non)))
 (fExpr (fMt sApp (fV 2) (fCons (fTup (fCons (fFz (fV 3)) (fCons (fFz (fBin sAdd (fBin sAdd (fV 3) (fC (.int 1))) (fFz (fCallF (m_nodes_in 16) (fCons (fFz (fBin sIx (fV 5) (fC (.int 0)))) fNil))))) fNil))) fNil)))
 fPass)))
 (fRet (fFz (fCall (s1 gAny) (fCons (fComp (fSeqI (fFz (fV 2))) (gTupl 2 (gsCons (gN (fun i => !(([("node", 3), ("child", 6)] : List (Str × Nat)).map (·.2)).contains i) 3) (gsCons (gN (fun i => !(([("node", 3), ("child", 6)] : List (Str × Nat)).map (·.2)).contains i) 6) gsNil))) fYes (fAndV (fBin (sEq false) (fBin sIx (fV 1) (fV 3)) (fC (.str "red"))) (fBin (sEq false) (fBin sIx (fV 1) (fV 6)) (fC (.str "red")))) [3, 6]) fNil))))))
def m_has_red_pair : FF := fnG 2 7 (cK []) b_has_red_pair
theorem ok_has_red_pair (T : Txt K mg) : ∃ fd, Fn P w K mg base "has_red_pair" s_has_red_pair 18 ["binary", "colors"] m_has_red_pair fd := by
  obtain ⟨gl, fd, Fu⟩ := T.d_has_red_pair
  obtain ⟨fd_stretches_of, G_stretches_of⟩ := ok_stretches_of (P := P) (w := w) (base := base) T
  obtain ⟨fd_nodes_in, G_nodes_in⟩ := ok_nodes_in (P := P) (w := w) (base := base) T
  exact ⟨fd, okD gl Fu sc_has_red_pair (cK []) (fun cdv A outer s H E hr =>
 (bCons (sSet (i := 2) sc_has_red_pair.nd rfl (by first | exact .inl rfl | exact .inr rfl) (eLst aNil))
 (bCons (sFor PassesOwn.never rfl (iSeq (eFz (eFz (eFn (G_stretches_of 16) (hr.mono (by decide)) rfl (fun _ _ _ _ _ _ us hl => match us, hl with | [_, _], _ => rfl) (aCons (eFz (eVar (pv 0))) (aCons eInt aNil)) (fan_cons (fan_cons fan_nil)))))) (gTupX rfl (gsConsX (gName' (pg_name (i := 3) sc_has_red_pair.nd rfl (by first | exact .inl rfl | exact .inr rfl))) (gsConsX (gName' (pg_name (i := 4) sc_has_red_pair.nd rfl (by first | exact .inl rfl | exact .inr rfl))) (gsConsX (gName' (pg_name (i := 5) sc_has_red_pair.nd rfl (by first | exact .inl rfl | exact .inr rfl))) gsNilX))))
 (bCons (sIf (tCmpX op_isNotA (b_is true) (eVar (pv 4)) eNon (nomark _))
 (bOne (sExpr (eMt PySem.F.plainAttrs_list PySem.F.slot_list_append PySem.F.type_list_append mt_append m_app (eVar (pv 2)) (aCons (eTup (aCons (eFz (eVar (pv 3))) (aCons (eFz (eOp op_sub b_sub (eOp op_sub b_sub (eVar (pv 3)) eInt) (eFz (eFn (G_nodes_in 16) (hr.mono (by decide)) rfl (fun _ _ _ _ _ _ us hl => match us, hl with | [_], _ => rfl) (aCons (eFz (eIx ix_seq b_ix (eVar (pv 4)) eInt (fun _ _ => rfl))) aNil) (fan_cons fan_nil))))) aNil))) aNil))))
 bNil)
 (bOne (sIf (tCmpX op_isNotA (b_is true) (eVar (pv 5)) eNon (nomark _))
 (bOne (sExpr (eMt PySem.F.plainAttrs_list PySem.F.slot_list_append PySem.F.type_list_append mt_append m_app (eVar (pv 2)) (aCons (eTup (aCons (eFz (eVar (pv 3))) (aCons (eFz (eOp op_addA b_add (eOp op_addA b_add (eVar (pv 3)) eInt) (eFz (eFn (G_nodes_in 16) (hr.mono (by decide)) rfl (fun _ _ _ _ _ _ us hl => match us, hl with | [_], _ => rfl) (aCons (eFz (eIx ix_seq b_ix (eVar (pv 5)) eInt (fun _ _ => rfl))) aNil) (fan_cons fan_nil))))) aNil))) aNil))))
 bNil))))
 (bOne (sRet (eFz (eCallB (cr_any rfl) c_any rfl T.z_any B.any (aCons (eComp (own := [("node", 3), ("child", 6)]) rfl sc_has_red_pair.nd (iSeq (eFz (eVar (pv 2)))) (blkOk_by (own := [("node", 3), ("child", 6)]) (N := N_has_red_pair) (sc := defScope s_has_red_pair) (by decide +kernel)) (fun _ _ _ _ _ => (gTupX rfl (gsConsX (gName' (pg_name (i := 3) sc_has_red_pair.nd rfl (by first | exact .inl rfl | exact .inr rfl))) (gsConsX (gName' (pg_name (i := 6) sc_has_red_pair.nd rfl (by first | exact .inl rfl | exact .inr rfl))) gsNilX)))) (fun _ _ _ _ _ => bYes) (fun _ _ _ _ _ => (eAnd (eCmp (op_eqA hr.units) (b_eq false) (eIx ix_seq b_ix (eVar (pv 1)) (eVar (pv 3)) (fun _ _ => rfl)) (eKs rfl T.c_RED) (nomark _)) (eOne (eCmp (op_eqA hr.units) (b_eq false) (eIx ix_seq b_ix (eVar (pv 1)) (eVar (pv 6)) (fun _ _ => rfl)) (eKs rfl T.c_RED) (nomark _)))))) aNil))))))))⟩
/-! ### count_down -/
abbrev N_count_down : List Str := ["binary", "colors", "here", "left", "right"]
theorem sc_count_down : FnScope N_count_down ["binary", "colors"] (defScope s_count_down) := ⟨rfl, rfl, rfl, by decide +kernel, rfl, by decide +kernel, by decide +kernel⟩
def b_count_down (r : FF) : FS :=
 (fSeq (fIfS (fTst (fBin (sIs false) (fV 0) (fC .non)))
 (fRet (fC (.int 0)))
 fPass)
 (fSeq (fAsg (fFz (fBin sSub (fBin sSub (fCall (s1 gLen) (fCons (fV 1) fNil)) (fC (.int 1))) (fFz (fCallF (m_nodes_in 16) (fCons (fFz (fBin sIx (fV 0) (fC (.int 1)))) fNil))))) (gN (cK []) 2))
 (fSeq (gPar (cK []) 3 4 (fCons (fFz (fFz (fCallF r (fCons (fFz (fBin sIx (fV 0) (fC (.int 0)))) (fCons (fFz (fSl (fV 1) fONone (fOSome (fV 2)))) fNil))))) (fCons (fFz (fFz (fCallF r (fCons (fFz (fBin sIx (fV 0) (fC (.int 1)))) (fCons (fFz (fSl (fV 1) (fOSome (fBin sAdd (fV 2) (fC (.int 1)))) fONone)) fNil))))) fNil)))
 (fRet (fFz (fIf (fOr (fTst (fBin (sIs false) (fV 3) (fC .non))) (fTst (fBin (sEq true) (fV 3) (fV 4)))) (fC .non) (fFz (fBin sAdd (fV 3) (fCall (s1 gInt) (fCons (fBin (sEq false) (fBin sIx (fV 1) (fV 2)) (fC (.str "black"))) fNil))))))))))
def m_count_down : Nat → FF
  | 0 => fun _ => none
  | k + 1 => fnG 2 5 (cK []) (b_count_down (m_count_down k))
theorem ok_count_down (T : Txt K mg) : ∃ fd, ∀ k, Fn P w K mg base "count_down" s_count_down (16 + k) ["binary", "colors"] (m_count_down k) fd := by
  obtain ⟨gl, fd, Fu⟩ := T.d_count_down
  obtain ⟨fd_nodes_in, G_nodes_in⟩ := ok_nodes_in (P := P) (w := w) (base := base) T
  refine ⟨fd, fun k => ?_⟩
  induction k with
  | zero => exact fn0 gl Fu _
  | succ k Gr =>
    exact okD gl Fu sc_count_down (cK []) (fun cdv A outer s H E hr =>
 (bCons (sIf (tCmpX op_isA (b_is false) (eVar (pv 0)) eNon (nomark _))
 (bOne (sRet eInt))
 bNil)
 (bCons (sSet (i := 2) sc_count_down.nd rfl (by first | exact .inl rfl | exact .inr rfl) (eFz (eOp op_sub b_sub (eOp op_sub b_sub (eCallB call_len c_len rfl T.z_len PySem.boot_len (aCons (eVar (pv 1)) aNil)) eInt) (eFz (eFn (G_nodes_in 16) (hr.mono (Nat.le_trans (by decide : 16 ≤ 16) (Nat.le_add_right 16 k))) rfl (fun _ _ _ _ _ _ us hl => match us, hl with | [_], _ => rfl) (aCons (eFz (eIx ix_seq b_ix (eVar (pv 0)) eInt (fun _ _ => rfl))) aNil) (fan_cons fan_nil))))))
 (bCons (sPar (i := 3) (j := 4) rfl sc_count_down.nd rfl rfl (by decide) rfl rfl (aCons (eFz (eFz (eFn Gr hr rfl (fun _ _ _ _ _ _ us hl => match us, hl with | [_, _], _ => rfl) (aCons (eFz (eIx ix_seq b_ix (eVar (pv 0)) eInt (fun _ _ => rfl))) (aCons (eFz (eSl (eVar (pv 1)) oNone (oSome (eVar (pv 2))))) aNil)) (fan_cons (fan_cons fan_nil))))) (aCons (eFz (eFz (eFn Gr hr rfl (fun _ _ _ _ _ _ us hl => match us, hl with | [_, _], _ => rfl) (aCons (eFz (eIx ix_seq b_ix (eVar (pv 0)) eInt (fun _ _ => rfl))) (aCons (eFz (eSl (eVar (pv 1)) (oSome (eOp op_addA b_add (eVar (pv 2)) eInt)) oNone)) aNil)) (fan_cons (fan_cons fan_nil))))) aNil)) rfl)
 (bOne (sRet (eFz (eIf (PW.pt (wOr (tCmpX op_isA (b_is false) (eVar (pv 3)) eNon (nomark _)) (wOr1 (tCmpX (op_neA hr.units) (b_eq true) (eVar (pv 3)) (eVar (pv 4)) (nomark _))))) eNon (eFz (eOp op_addA b_add (eVar (pv 3)) (eCallT call_int1 c_int rfl T.z_int B.int (aCons (eCmp (op_eqA hr.units) (b_eq false) (eIx ix_seq b_ix (eVar (pv 1)) (eVar (pv 2)) (fun _ _ => rfl)) (eKs rfl T.c_BLACK) (nomark _)) aNil))))))))))))
/-! ### shows_coloring -/
abbrev N_shows_coloring : List Str := ["binary", "value", "color"]
theorem sc_shows_coloring : FnScope N_shows_coloring ["binary", "value"] (defScope s_shows_coloring) := ⟨rfl, rfl, rfl, by decide +kernel, rfl, by decide +kernel, by decide +kernel⟩
def b_shows_coloring : FS :=
 (fSeq (fExpr (fCallF m_check_binary (fCons (fFz (fV 0)) fNil)))
 (fSeq (fIfS (fOr (fNot (fTru (fIsi "tuple" (fV 1)))) (fTst (fBin (sEq true) (fCall (s1 gLen) (fCons (fV 1) fNil)) (fFz (fCallF (m_nodes_in 16) (fCons (fFz (fV 0)) fNil))))))
 (fRet (fC (.bl false)))
 fPass)
 (fSeq (fIfS (fNot (fTru (fCall (s1 gAll) (fCons (fComp (fSeqI (fFz (fV 1))) (gN (fun i => !(([("color", 2)] : List (Str × Nat)).map (·.2)).contains i) 2) fYes (fAndV (fIsi "str" (fV 2)) (fBin (sIn false) (fV 2) (fTup (fCons (fFz (fC (.str "red"))) (fCons (fFz (fC (.str "black"))) fNil))))) [2]) fNil))))
 (fRet (fC (.bl false)))
 fPass)
 (fSeq (fIfS (fTst (fBin (sIs false) (fV 0) (fC .non)))
 (fRet (fC (.bl true)))
 fPass)
 (fSeq (fIfS (fOr (fTst (fBin (sEq true) (fBin sIx (fV 1) (fFz (fCallF (m_nodes_in 16) (fCons (fFz (fBin sIx (fV 0) (fC (.int 0)))) fNil)))) (fC (.str "black")))) (fTru (fFz (fCallF m_has_red_pair (fCons (fFz (fV 0)) (fCons (fFz (fV 1)) fNil))))))
 (fRet (fC (.bl false)))
 fPass)
 (fRet (fBin (sIs true) (fFz (fCallF (m_count_down 16) (fCons (fFz (fV 0)) (fCons (fFz (fV 1)) fNil)))) (fC .non))))))))
def m_shows_coloring : FF := fnG 2 3 (cK []) b_shows_coloring
theorem ok_shows_coloring (T : Txt K mg) : ∃ fd, Fn P w K mg base "shows_coloring" s_shows_coloring 33 ["binary", "value"] m_shows_coloring fd := by
  obtain ⟨gl, fd, Fu⟩ := T.d_shows_coloring
  obtain ⟨fd_check_binary, G_check_binary⟩ := ok_check_binary (P := P) (w := w) (base := base) T
  obtain ⟨fd_nodes_in, G_nodes_in⟩ := ok_nodes_in (P := P) (w := w) (base := base) T
  obtain ⟨fd_has_red_pair, G_has_red_pair⟩ := ok_has_red_pair (P := P) (w := w) (base := base) T
  obtain ⟨fd_count_down, G_count_down⟩ := ok_count_down (P := P) (w := w) (base := base) T
  exact ⟨fd, okD gl Fu sc_shows_coloring (cK []) (fun cdv A outer s H E hr =>
 (bCons (sExpr (eFn G_check_binary (hr.mono (by decide)) rfl (fun _ _ _ _ _ _ us hl => match us, hl with | [_], _ => rfl) (aCons (eFz (eVar (pv 0))) aNil) (fan_cons fan_nil)))
 (bCons (sIf (PW.pt (wOr (tNotX (tTru (eIsi (T := "tuple") (by decide) rfl T.z_isinstance (eVar (pv 1)) rfl T.z_tuple B.tuple))) (wOr1 (tCmpX (op_neA hr.units) (b_eq true) (eCallB call_len c_len rfl T.z_len PySem.boot_len (aCons (eVar (pv 1)) aNil)) (eFz (eFn (G_nodes_in 16) (hr.mono (by decide)) rfl (fun _ _ _ _ _ _ us hl => match us, hl with | [_], _ => rfl) (aCons (eFz (eVar (pv 0))) aNil) (fan_cons fan_nil))) (nomark _)))))
 (bOne (sRet eBl))
 bNil)
 (bCons (sIf (tNotX (tTru (eCallB (cr_all rfl) c_all rfl T.z_all B.all (aCons (eComp (own := [("color", 2)]) rfl sc_shows_coloring.nd (iSeq (eFz (eVar (pv 1)))) (blkOk_by (own := [("color", 2)]) (N := N_shows_coloring) (sc := defScope s_shows_coloring) (by decide +kernel)) (fun _ _ _ _ _ => (gName' (pg_name (i := 2) sc_shows_coloring.nd rfl (by first | exact .inl rfl | exact .inr rfl)))) (fun _ _ _ _ _ => bYes) (fun _ _ _ _ _ => (eAnd (eIsi (T := "str") (by decide) rfl T.z_isinstance (eVar (pv 2)) rfl T.z_str B.str) (eOne (eCmp (op_inP hr.units) (b_in false) (eVar (pv 2)) (eTup (aCons (eFz (eKs rfl T.c_RED)) (aCons (eFz (eKs rfl T.c_BLACK)) aNil))) (by rfl)))))) aNil))))
 (bOne (sRet eBl))
 bNil)
 (bCons (sIf (tCmpX op_isA (b_is false) (eVar (pv 0)) eNon (nomark _))
 (bOne (sRet eBl))
 bNil)
 (bCons (sIf (PW.pt (wOr (tCmpX (op_neA hr.units) (b_eq true) (eIx ix_seq b_ix (eVar (pv 1)) (eFz (eFn (G_nodes_in 16) (hr.mono (by decide)) rfl (fun _ _ _ _ _ _ us hl => match us, hl with | [_], _ => rfl) (aCons (eFz (eIx ix_seq b_ix (eVar (pv 0)) eInt (fun _ _ => rfl))) aNil) (fan_cons fan_nil))) (fun _ _ => rfl)) (eKs rfl T.c_BLACK) (nomark _)) (wOr1 (tTru (eFz (eFn G_has_red_pair (hr.mono (by decide)) rfl (fun _ _ _ _ _ _ us hl => match us, hl with | [_, _], _ => rfl) (aCons (eFz (eVar (pv 0))) (aCons (eFz (eVar (pv 1))) aNil)) (fan_cons (fan_cons fan_nil))))))))
 (bOne (sRet eBl))
 bNil)
 (bOne (sRet (eCmp op_isNotA (b_is true) (eFz (eFn (G_count_down 16) (hr.mono (by decide)) rfl (fun _ _ _ _ _ _ us hl => match us, hl with | [_, _], _ => rfl) (aCons (eFz (eVar (pv 0))) (aCons (eFz (eVar (pv 1))) aNil)) (fan_cons (fan_cons fan_nil)))) eNon (nomark _))))))))))⟩
/-! ### uneven_node -/
abbrev N_uneven_node : List Str := ["binary", "found", "node", "left", "right"]
theorem sc_uneven_node : FnScope N_uneven_node ["binary"] (defScope s_uneven_node) := ⟨rfl, rfl, rfl, by decide +kernel, rfl, by decide +kernel, by decide +kernel⟩
def b_uneven_node : FS :=
 (fSeq (fExpr (fCallF m_check_binary (fCons (fFz (fV 0)) fNil)))
 (fSeq (fAsg (fFz (fComp (fSeqI (fFz (fFz (fCallF (m_stretches_of 16) (fCons (fFz (fV 0)) (fCons (fC (.int 0)) fNil)))))) (gTupl 3 (gsCons (gN (fun i => !(([("node", 2), ("left", 3), ("right", 4)] : List (Str × Nat)).map (·.2)).contains i) 2) (gsCons (gN (fun i => !(([("node", 2), ("left", 3), ("right", 4)] : List (Str × Nat)).map (·.2)).contains i) 3) (gsCons (gN (fun i => !(([("node", 2), ("left", 3), ("right", 4)] : List (Str × Nat)).map (·.2)).contains i) 4) gsNil)))) (fTst (fBin sGt (fCall (s1 gAbs) (fCons (fBin sSub (fFz (fCallF (m_height_in 16) (fCons (fFz (fV 3)) fNil))) (fFz (fCallF (m_height_in 16) (fCons (fFz (fV 4)) fNil)))) fNil)) (fC (.int 1)))) (fFz (fV 2)) [2, 3, 4])) (gN (cK []) 1))
 (fRet (fFz (fIf (fTst (fBin (sEq true) (fV 1) (fLst fNil))) (fFz (fBin sIx (fV 1) (fC (.int 0)))) (fC .non))))))
def m_uneven_node : FF := fnG 1 5 (cK []) b_uneven_node
theorem ok_uneven_node (T : Txt K mg) : ∃ fd, Fn P w K mg base "uneven_node" s_uneven_node 18 ["binary"] m_uneven_node fd := by
  obtain ⟨gl, fd, Fu⟩ := T.d_uneven_node
  obtain ⟨fd_check_binary, G_check_binary⟩ := ok_check_binary (P := P) (w := w) (base := base) T
  obtain ⟨fd_stretches_of, G_stretches_of⟩ := ok_stretches_of (P := P) (w := w) (base := base) T
  obtain ⟨fd_height_in, G_height_in⟩ := ok_height_in (P := P) (w := w) (base := base) T
  exact ⟨fd, okD gl Fu sc_uneven_node (cK []) (fun cdv A outer s H E hr =>
 (bCons (sExpr (eFn G_check_binary (hr.mono (by decide)) rfl (fun _ _ _ _ _ _ us hl => match us, hl with | [_], _ => rfl) (aCons (eFz (eVar (pv 0))) aNil) (fan_cons fan_nil)))
 (bCons (sSetLc (own := [("node", 2), ("left", 3), ("right", 4)]) (fun _ _ _ h => fz_run h) rfl sc_uneven_node.nd rfl rfl (sw_true rfl rfl rfl (by decide +kernel)) (iSeq (eFz (eFz (eFn (G_stretches_of 16) (hr.mono (by decide)) rfl (fun _ _ _ _ _ _ us hl => match us, hl with | [_, _], _ => rfl) (aCons (eFz (eVar (pv 0))) (aCons eInt aNil)) (fan_cons (fan_cons fan_nil)))))) (blkOk_by (own := [("node", 2), ("left", 3), ("right", 4)]) (N := N_uneven_node) (sc := defScope s_uneven_node) (by decide +kernel)) (fun _ _ _ _ _ => (gTupX rfl (gsConsX (gName' (pg_name (i := 2) sc_uneven_node.nd rfl (by first | exact .inl rfl | exact .inr rfl))) (gsConsX (gName' (pg_name (i := 3) sc_uneven_node.nd rfl (by first | exact .inl rfl | exact .inr rfl))) (gsConsX (gName' (pg_name (i := 4) sc_uneven_node.nd rfl (by first | exact .inl rfl | exact .inr rfl))) gsNilX))))) (fun _ _ _ _ _ => bIf (tCmpX op_gt b_I0 (eCallB call_abs c_abs rfl T.z_abs B.abs (aCons (eOp op_sub b_sub (eFz (eFn (G_height_in 16) (hr.mono (by decide)) rfl (fun _ _ _ _ _ _ us hl => match us, hl with | [_], _ => rfl) (aCons (eFz (eVar (pv 3))) aNil) (fan_cons fan_nil))) (eFz (eFn (G_height_in 16) (hr.mono (by decide)) rfl (fun _ _ _ _ _ _ us hl => match us, hl with | [_], _ => rfl) (aCons (eFz (eVar (pv 4))) aNil) (fan_cons fan_nil)))) aNil)) eInt (nomark _))) (fun _ _ _ _ _ => (eFz (eVar (pv 2)))))
 (bOne (sRet (eFz (eIf (tCmpX (op_neA hr.units) (b_eq true) (eVar (pv 1)) (eLst aNil) (nomark _)) (eFz (eIx ix_seq b_ix (eVar (pv 1)) eInt (fun _ _ => rfl))) eNon)))))))⟩
/-! ### _law_uneven -/
abbrev N__law_uneven : List Str := ["binary", "one"]
theorem sc__law_uneven : FnScope N__law_uneven ["binary"] (defScope s__law_uneven) := ⟨rfl, rfl, rfl, by decide +kernel, rfl, by decide +kernel, by decide +kernel⟩
def b__law_uneven : FS :=
 (fRet (fBin (sEq true) (fComp (fSeqI (fFz (fFz (fCallF (m__law_nodes 16) (fCons (fFz (fV 0)) fNil))))) (gN (fun i => !(([("one", 1)] : List (Str × Nat)).map (·.2)).contains i) 1) (fTst (fBin sGt (fCall (s1 gAbs) (fCons (fBin sSub (fBin sIx (fFz (fCallF (m__law_ways 16) (fCons (fFz (fBin sIx (fV 1) (fC (.int 0)))) fNil))) (fC (.int 0))) (fBin sIx (fFz (fCallF (m__law_ways 16) (fCons (fFz (fBin sIx (fV 1) (fC (.int 1)))) fNil))) (fC (.int 0)))) fNil)) (fC (.int 1)))) (fFz (fV 1)) [1]) (fLst fNil)))
def m__law_uneven : FF := fnG 1 2 (cK []) b__law_uneven
theorem ok__law_uneven (T : Txt K mg) : ∃ fd, Fn P w K mg base "_law_uneven" s__law_uneven 17 ["binary"] m__law_uneven fd := by
  obtain ⟨gl, fd, Fu⟩ := T.d__law_uneven
  obtain ⟨fd__law_nodes, G__law_nodes⟩ := ok__law_nodes (P := P) (w := w) (base := base) T
  obtain ⟨fd__law_ways, G__law_ways⟩ := ok__law_ways (P := P) (w := w) (base := base) T
  exact ⟨fd, okD gl Fu sc__law_uneven (cK []) (fun cdv A outer s H E hr =>
 (bOne (sRet (eCmp (op_neA hr.units) (b_eq true) (eComp (own := [("one", 1)]) rfl sc__law_uneven.nd (iSeq (eFz (eFz (eFn (G__law_nodes 16) (hr.mono (by decide)) rfl (fun _ _ _ _ _ _ us hl => match us, hl with | [_], _ => rfl) (aCons (eFz (eVar (pv 0))) aNil) (fan_cons fan_nil))))) (blkOk_by (own := [("one", 1)]) (N := N__law_uneven) (sc := defScope s__law_uneven) (by decide +kernel)) (fun _ _ _ _ _ => (gName' (pg_name (i := 1) sc__law_uneven.nd rfl (by first | exact .inl rfl | exact .inr rfl)))) (fun _ _ _ _ _ => bIf (tCmpX op_gt b_I0 (eCallB call_abs c_abs rfl T.z_abs B.abs (aCons (eOp op_sub b_sub (eIx ix_seq b_ix (eFz (eFn (G__law_ways 16) (hr.mono (by decide)) rfl (fun _ _ _ _ _ _ us hl => match us, hl with | [_], _ => rfl) (aCons (eFz (eIx ix_seq b_ix (eVar (pv 1)) eInt (fun _ _ => rfl))) aNil) (fan_cons fan_nil))) eInt (fun _ _ => rfl)) (eIx ix_seq b_ix (eFz (eFn (G__law_ways 16) (hr.mono (by decide)) rfl (fun _ _ _ _ _ _ us hl => match us, hl with | [_], _ => rfl) (aCons (eFz (eIx ix_seq b_ix (eVar (pv 1)) eInt (fun _ _ => rfl))) aNil) (fan_cons fan_nil))) eInt (fun _ _ => rfl))) aNil)) eInt (nomark _))) (fun _ _ _ _ _ => (eFz (eVar (pv 1))))) (eLst aNil) (nomark _)))))⟩
/-! ### _law_tree_right -/
abbrev N__law_tree_right : List Str := ["binary", "named", "rows", "found", "one", "k", "long", "short", "due", "told", "colors", "even"]
theorem sc__law_tree_right : FnScope N__law_tree_right ["binary", "named"] (defScope s__law_tree_right) := ⟨rfl, rfl, rfl, by decide +kernel, rfl, by decide +kernel, by decide +kernel⟩
def b__law_tree_right : FS :=
 (fSeq (gPar (cK []) 2 3 (fCons (fFz (fComp (fSeqI (fFz (fFz (fCallF (m__law_nodes 16) (fCons (fFz (fV 0)) fNil))))) (gN (fun i => !(([("one", 4)] : List (Str × Nat)).map (·.2)).contains i) 4) fYes (fCallF (m__law_ways 16) (fCons (fFz (fV 4)) fNil)) [4])) (fCons (fC .non) fNil)))
 (fSeq (fFor (fRg1 (fCons (fFz (fCall (s1 gLen) (fCons (fV 2) fNil))) fNil)) (gN (cK []) 5)
 (fIfS (fAnd (fTst (fBin (sIs false) (fV 3) (fC .non))) (fTst (fBin sGt (fBin sIx (fBin sIx (fV 2) (fV 5)) (fC (.int 0))) (fBin sMul (fC (.int 2)) (fBin sIx (fBin sIx (fV 2) (fV 5)) (fC (.int 1)))))))
 (fAsg (fFz (fV 5)) (gN (cK []) 3))
 fPass))
 (fSeq (fAsg (fFz (fFz (fCallF (m__law_ways 16) (fCons (fFz (fV 0)) fNil)))) (gTupl 2 (gsCons (gN (cK []) 6) (gsCons (gN (cK []) 7) gsNil))))
 (fSeq (fAsg (fFz (fIf (fTst (fBin (sIs false) (fV 3) (fC .non))) (fFz (fTRg (fR2 (fFz (fBin sDiv (fBin sAdd (fV 6) (fC (.int 1))) (fC (.int 2)))) (fFz (fBin sAdd (fV 7) (fC (.int 1))))))) (fFz (fTup fNil)))) (gN (cK []) 8))
 (fSeq (fAsg (fFz (fIf (fTru (fV 1)) (fFz (fLst (fCons (fFz (fFz (fCallK 0 1 [0] m_color_break fNil (fCons (fFz (fV 0)) fNil)))) (fCons (fFz (fFz (fCallF m_black_heights (fCons (fFz (fV 0)) fNil)))) fNil)))) (fFz (fLst (fCons (fFz (fFz (fCallF m_color_break (fCons (fFz (fV 0)) fNil)))) (fCons (fFz (fFz (fCallK 0 1 [0] m_black_heights fNil (fCons (fFz (fV 0)) fNil)))) fNil)))))) (gN (cK []) 9))
 (fSeq (fIfS (fOr (fNot (fTru (fFz (fCallF (m__law_same 16) (fCons (fFz (fV 9)) (fCons (fFz (fLst (fCons (fFz (fV 3)) (fCons (fFz (fV 8)) fNil)))) fNil)))))) (fNot (fTru (fFz (fCallF (m__law_same 16) (fCons (fFz (fFz (fCallF m_binary_height (fCons (fFz (fV 0)) fNil)))) (fCons (fFz (fV 6)) fNil)))))))
 (fRet (fC (.bl false)))
 fPass)
 (fSeq (fAsg (fFz (fIf (fTru (fV 1)) (fFz (fFz (fCallK 0 1 [0] m_coloring_of fNil (fCons (fFz (fV 0)) fNil)))) (fFz (fFz (fCallF m_coloring_of (fCons (fFz (fV 0)) fNil)))))) (gN (cK []) 10))
 (fSeq (fIfS (fOr (fNot (fTru (fFz (fCallF (m__law_same 16) (fCons (fFz (fFz (fCallF m_coloring_of (fCons (fFz (fV 0)) fNil)))) (fCons (fFz (fV 10)) fNil)))))) (fTst (fBin (sEq true) (fBin (sIs false) (fV 10) (fC .non)) (fBin (sIs true) (fV 3) (fC .non)))))
 (fRet (fC (.bl false)))
 fPass)
 (fSeq (fIfS (fAnd (fTst (fBin (sIs true) (fV 10) (fC .non))) (fOr (fNot (fTru (fFz (fCallF m__law_shown (fCons (fFz (fV 0)) (fCons (fFz (fV 10)) fNil)))))) (fNot (fTru (fFz (fCallF (m__law_same 16) (fCons (fFz (fFz (fCallF m_shows_coloring (fCons (fFz (fV 0)) (fCons (fFz (fV 10)) fNil))))) (fCons (fC (.bl true)) fNil))))))))
 (fRet (fC (.bl false)))
 fPass)
 (fSeq (fAsg (fFz (fIf (fTru (fV 1)) (fFz (fFz (fCallK 0 1 [0] m_uneven_node fNil (fCons (fFz (fV 0)) fNil)))) (fFz (fFz (fCallF m_uneven_node (fCons (fFz (fV 0)) fNil)))))) (gN (cK []) 11))
 (fRet (fAndV (fFz (fCallF (m__law_same 16) (fCons (fBin (sIs false) (fV 11) (fC .non)) (fCons (fNotV (fFz (fCallF m__law_uneven (fCons (fFz (fV 0)) fNil)))) fNil)))) (fOrV (fBin (sIs true) (fV 11) (fC .non)) (fBin (sIs false) (fV 3) (fC .non)))))))))))))))
def m__law_tree_right : FF := fnG 2 12 (cK []) b__law_tree_right
theorem ok__law_tree_right (T : Txt K mg) : ∃ fd, Fn P w K mg base "_law_tree_right" s__law_tree_right 34 ["binary", "named"] m__law_tree_right fd := by
  obtain ⟨gl, fd, Fu⟩ := T.d__law_tree_right
  obtain ⟨fd__law_nodes, G__law_nodes⟩ := ok__law_nodes (P := P) (w := w) (base := base) T
  obtain ⟨fd__law_ways, G__law_ways⟩ := ok__law_ways (P := P) (w := w) (base := base) T
  obtain ⟨fd_black_heights, G_black_heights⟩ := ok_black_heights (P := P) (w := w) (base := base) T
  obtain ⟨fd_color_break, G_color_break⟩ := ok_color_break (P := P) (w := w) (base := base) T
  obtain ⟨fd__law_same, G__law_same⟩ := ok__law_same (P := P) (w := w) (base := base) T
  obtain ⟨fd_binary_height, G_binary_height⟩ := ok_binary_height (P := P) (w := w) (base := base) T
  obtain ⟨fd_coloring_of, G_coloring_of⟩ := ok_coloring_of (P := P) (w := w) (base := base) T
  obtain ⟨fd_shows_coloring, G_shows_coloring⟩ := ok_shows_coloring (P := P) (w := w) (base := base) T
  obtain ⟨fd__law_shown, G__law_shown⟩ := ok__law_shown (P := P) (w := w) (base := base) T
  obtain ⟨fd_uneven_node, G_uneven_node⟩ := ok_uneven_node (P := P) (w := w) (base := base) T
  obtain ⟨fd__law_uneven, G__law_uneven⟩ := ok__law_uneven (P := P) (w := w) (base := base) T
  exact ⟨fd, okD gl Fu sc__law_tree_right (cK []) (fun cdv A outer s H E hr =>
 (bCons (sPar (i := 2) (j := 3) rfl sc__law_tree_right.nd rfl rfl (by decide) rfl rfl (aCons (eFz (eComp (own := [("one", 4)]) rfl sc__law_tree_right.nd (iSeq (eFz (eFz (eFn (G__law_nodes 16) (hr.mono (by decide)) rfl (fun _ _ _ _ _ _ us hl => match us, hl with | [_], _ => rfl) (aCons (eFz (eVar (pv 0))) aNil) (fan_cons fan_nil))))) (blkOk_by (own := [("one", 4)]) (N := N__law_tree_right) (sc := defScope s__law_tree_right) (by decide +kernel)) (fun _ _ _ _ _ => (gName' (pg_name (i := 4) sc__law_tree_right.nd rfl (by first | exact .inl rfl | exact .inr rfl)))) (fun _ _ _ _ _ => bYes) (fun _ _ _ _ _ => (eFn (G__law_ways 16) (hr.mono (by decide)) rfl (fun _ _ _ _ _ _ us hl => match us, hl with | [_], _ => rfl) (aCons (eFz (eVar (pv 4))) aNil) (fan_cons fan_nil))))) (aCons eNon aNil)) rfl)
 (bCons (sFor PassesOwn.never rfl (iRg1 rfl T.z_range (aCons (eFz (eCallB call_len c_len rfl T.z_len PySem.boot_len (aCons (eVar (pv 2)) aNil))) aNil)) (gName' (pg_name (i := 5) sc__law_tree_right.nd rfl (by first | exact .inl rfl | exact .inr rfl)))
 (bOne (sIf (PW.pt (wAnd (tCmpX op_isA (b_is false) (eVar (pv 3)) eNon (nomark _)) (wAnd1 (tCmpX op_gt b_I0 (eIx ix_seq b_ix (eIx ix_seq b_ix (eVar (pv 2)) (eVar (pv 5)) (fun _ _ => rfl)) eInt (fun _ _ => rfl)) (eOp op_mulA b_mul eInt (eIx ix_seq b_ix (eIx ix_seq b_ix (eVar (pv 2)) (eVar (pv 5)) (fun _ _ => rfl)) eInt (fun _ _ => rfl))) (nomark _)))))
 (bOne (sSet (i := 3) sc__law_tree_right.nd rfl (by first | exact .inl rfl | exact .inr rfl) (eFz (eVar (pv 5)))))
 bNil)))
 (bCons (sAsg (eFz (eFz (eFn (G__law_ways 16) (hr.mono (by decide)) rfl (fun _ _ _ _ _ _ us hl => match us, hl with | [_], _ => rfl) (aCons (eFz (eVar (pv 0))) aNil) (fan_cons fan_nil)))) (gTupX rfl (gsConsX (gName' (pg_name (i := 6) sc__law_tree_right.nd rfl (by first | exact .inl rfl | exact .inr rfl))) (gsConsX (gName' (pg_name (i := 7) sc__law_tree_right.nd rfl (by first | exact .inl rfl | exact .inr rfl))) gsNilX))))
 (bCons (sSet (i := 8) sc__law_tree_right.nd rfl (by first | exact .inl rfl | exact .inr rfl) (eFz (eIf (tCmpX op_isA (b_is false) (eVar (pv 3)) eNon (nomark _)) (eFz (eTRg rfl rfl T.z_tuple (rX2 rfl T.z_range (eFz (eOp op_fdivW b_div (eOp op_addA b_add (eVar (pv 6)) eInt) eInt)) (eFz (eOp op_addA b_add (eVar (pv 7)) eInt))))) (eFz (eTup aNil)))))
 (bCons (sSet (i := 9) sc__law_tree_right.nd rfl (by first | exact .inl rfl | exact .inr rfl) (eFz (eIf (tTru (eVar (pv 1))) (eFz (eLst (aCons (eFz (eFz (eFnK0 (ks := ["binary"]) G_color_break (hr.mono (by decide)) (by rfl) [0] rfl (fun _ _ _ _ _ _ us ws h1 h2 => match us, ws, h1, h2 with | [], [_], _, _ => rfl) (kCons (eFz (eVar (pv 0))) kNil)))) (aCons (eFz (eFz (eFn G_black_heights (hr.mono (by decide)) rfl (fun _ _ _ _ _ _ us hl => match us, hl with | [_], _ => rfl) (aCons (eFz (eVar (pv 0))) aNil) (fan_cons fan_nil)))) aNil)))) (eFz (eLst (aCons (eFz (eFz (eFn G_color_break (hr.mono (by decide)) rfl (fun _ _ _ _ _ _ us hl => match us, hl with | [_], _ => rfl) (aCons (eFz (eVar (pv 0))) aNil) (fan_cons fan_nil)))) (aCons (eFz (eFz (eFnK0 (ks := ["binary"]) G_black_heights (hr.mono (by decide)) (by rfl) [0] rfl (fun _ _ _ _ _ _ us ws h1 h2 => match us, ws, h1, h2 with | [], [_], _, _ => rfl) (kCons (eFz (eVar (pv 0))) kNil)))) aNil)))))))
 (bCons (sIf (PW.pt (wOr (tNotX (tTru (eFz (eFn (G__law_same 16) (hr.mono (by decide)) rfl (fun _ _ _ _ _ _ us hl => match us, hl with | [_, _], _ => rfl) (aCons (eFz (eVar (pv 9))) (aCons (eFz (eLst (aCons (eFz (eVar (pv 3))) (aCons (eFz (eVar (pv 8))) aNil)))) aNil)) (fan_cons (fan_cons fan_nil)))))) (wOr1 (tNotX (tTru (eFz (eFn (G__law_same 16) (hr.mono (by decide)) rfl (fun _ _ _ _ _ _ us hl => match us, hl with | [_, _], _ => rfl) (aCons (eFz (eFz (eFn G_binary_height (hr.mono (by decide)) rfl (fun _ _ _ _ _ _ us hl => match us, hl with | [_], _ => rfl) (aCons (eFz (eVar (pv 0))) aNil) (fan_cons fan_nil)))) (aCons (eFz (eVar (pv 6))) aNil)) (fan_cons (fan_cons fan_nil)))))))))
 (bOne (sRet eBl))
 bNil)
 (bCons (sSet (i := 10) sc__law_tree_right.nd rfl (by first | exact .inl rfl | exact .inr rfl) (eFz (eIf (tTru (eVar (pv 1))) (eFz (eFz (eFnK0 (ks := ["binary"]) G_coloring_of (hr.mono (by decide)) (by rfl) [0] rfl (fun _ _ _ _ _ _ us ws h1 h2 => match us, ws, h1, h2 with | [], [_], _, _ => rfl) (kCons (eFz (eVar (pv 0))) kNil)))) (eFz (eFz (eFn G_coloring_of (hr.mono (by decide)) rfl (fun _ _ _ _ _ _ us hl => match us, hl with | [_], _ => rfl) (aCons (eFz (eVar (pv 0))) aNil) (fan_cons fan_nil)))))))
 (bCons (sIf (PW.pt (wOr (tNotX (tTru (eFz (eFn (G__law_same 16) (hr.mono (by decide)) rfl (fun _ _ _ _ _ _ us hl => match us, hl with | [_, _], _ => rfl) (aCons (eFz (eFz (eFn G_coloring_of (hr.mono (by decide)) rfl (fun _ _ _ _ _ _ us hl => match us, hl with | [_], _ => rfl) (aCons (eFz (eVar (pv 0))) aNil) (fan_cons fan_nil)))) (aCons (eFz (eVar (pv 10))) aNil)) (fan_cons (fan_cons fan_nil)))))) (wOr1 (tCmpX (op_neA hr.units) (b_eq true) (eCmp op_isA (b_is false) (eVar (pv 10)) eNon (nomark _)) (eCmp op_isNotA (b_is true) (eVar (pv 3)) eNon (nomark _)) (nomark _)))))
 (bOne (sRet eBl))
 bNil)
 (bCons (sIf (PW.pt (wAnd (tCmpX op_isNotA (b_is true) (eVar (pv 10)) eNon (nomark _)) (wAnd1 (PW.pt (wOr (tNotX (tTru (eFz (eFn G__law_shown (hr.mono (by decide)) rfl (fun _ _ _ _ _ _ us hl => match us, hl with | [_, _], _ => rfl) (aCons (eFz (eVar (pv 0))) (aCons (eFz (eVar (pv 10))) aNil)) (fan_cons (fan_cons fan_nil)))))) (wOr1 (tNotX (tTru (eFz (eFn (G__law_same 16) (hr.mono (by decide)) rfl (fun _ _ _ _ _ _ us hl => match us, hl with | [_, _], _ => rfl) (aCons (eFz (eFz (eFn G_shows_coloring (hr.mono (by decide)) rfl (fun _ _ _ _ _ _ us hl => match us, hl with | [_, _], _ => rfl) (aCons (eFz (eVar (pv 0))) (aCons (eFz (eVar (pv 10))) aNil)) (fan_cons (fan_cons fan_nil))))) (aCons eBl aNil)) (fan_cons (fan_cons fan_nil))))))))))))
 (bOne (sRet eBl))
 bNil)
 (bCons (sSet (i := 11) sc__law_tree_right.nd rfl (by first | exact .inl rfl | exact .inr rfl) (eFz (eIf (tTru (eVar (pv 1))) (eFz (eFz (eFnK0 (ks := ["binary"]) G_uneven_node (hr.mono (by decide)) (by rfl) [0] rfl (fun _ _ _ _ _ _ us ws h1 h2 => match us, ws, h1, h2 with | [], [_], _, _ => rfl) (kCons (eFz (eVar (pv 0))) kNil)))) (eFz (eFz (eFn G_uneven_node (hr.mono (by decide)) rfl (fun _ _ _ _ _ _ us hl => match us, hl with | [_], _ => rfl) (aCons (eFz (eVar (pv 0))) aNil) (fan_cons fan_nil)))))))
 (bOne (sRet (eAnd (eFz (eFn (G__law_same 16) (hr.mono (by decide)) rfl (fun _ _ _ _ _ _ us hl => match us, hl with | [_, _], _ => rfl) (aCons (eCmp op_isA (b_is false) (eVar (pv 11)) eNon (nomark _)) (aCons (eNot (eFz (eFn G__law_uneven (hr.mono (by decide)) rfl (fun _ _ _ _ _ _ us hl => match us, hl with | [_], _ => rfl) (aCons (eFz (eVar (pv 0))) aNil) (fan_cons fan_nil)))) aNil)) (fan_cons (fan_cons fan_nil)))) (eOne (eOr (eCmp op_isNotA (b_is true) (eVar (pv 11)) eNon (nomark _)) (eOne (eCmp op_isA (b_is false) (eVar (pv 3)) eNon (nomark _)))))))))))))))))))⟩
/-! ### _law_colors_right -/
abbrev N__law_colors_right : List Str := ["box", "binary", "named", "colors", "many", "rows", "k", "turn", "j", "one", "at", "value", "told"]
theorem sc__law_colors_right : FnScope N__law_colors_right ["box", "binary", "named"] (defScope s__law_colors_right) := ⟨rfl, rfl, rfl, by decide +kernel, rfl, by decide +kernel, by decide +kernel⟩
def b__law_colors_right : FS :=
 (fSeq (gPar (cK [0]) 3 4 (fCons (fFz (fFz (fCallF m_coloring_of (fCons (fFz (fV 1)) fNil)))) (fCons (fFz (fFz (fCallF (m__law_size 16) (fCons (fFz (fV 1)) fNil)))) fNil)))
 (fSeq (fAsg (fLst (fCons (fCall (s1 gTuple) (fCons (fBin sMul (fLst (fCons (fC (.str "black")) fNil)) (fV 4)) fNil)) (fCons (fCall (s1 gTuple) (fCons (fComp (fRg1 (fCons (fFz (fV 4)) fNil)) (gN (fun i => !(([("k", 6)] : List (Str × Nat)).map (·.2)).contains i) 6) fYes (fFz (fBin sIx (fLst (fCons (fC (.str "black")) (fCons (fC (.str "red")) fNil))) (fFz (fCallF m__law_take (fCons (fV 0) (fCons (fC (.int 2)) fNil)))))) [6]) fNil)) (fCons (fC .non) (fCons (fFz (fIf (fTst (fBin (sIs true) (fV 3) (fC .non))) (fFz (fCall (s1 gList) (fCons (fV 3) fNil))) (fFz (fLst fNil)))) (fCons (fBin sMul (fTup (fCons (fC (.str "black")) fNil)) (fBin sAdd (fV 4) (fC (.int 1)))) fNil)))))) (gN (cK [0]) 5))
 (fSeq (fIfS (fTst (fBin (sIs true) (fV 3) (fC .non)))
 (fSeq (fExpr (fMt sApp (fV 5) (fCons (fFz (fV 3)) fNil)))
 (fSeq (fFor (fRg1 (fCons (fC (.int 3)) fNil)) (gN (cK [0]) 7)
 (fSeq (fUnp 2 (fCons (fFz (fFz (fCallF m__law_take (fCons (fV 0) (fCons (fFz (fCall (s2 gMax2) (fCons (fC (.int 1)) (fCons (fV 4) fNil)))) fNil))))) (fCons (fFz (fFz (fCallF m__law_take (fCons (fV 0) (fCons (fFz (fCall (s2 gMax2) (fCons (fC (.int 1)) (fCons (fV 4) fNil)))) fNil))))) fNil)) (gmCons (gN (cK [0]) 6) (gmCons (gN (cK [0]) 8) gmNil)))
 (fExpr (fMt sApp (fV 5) (fCons (fCall (s1 gTuple) (fCons (fComp (fEnumA (fCons (fFz (fV 3)) fNil)) (gTupl 2 (gsCons (gN (fun i => !(([("at", 10), ("one", 9)] : List (Str × Nat)).map (·.2)).contains i) 10) (gsCons (gN (fun i => !(([("at", 10), ("one", 9)] : List (Str × Nat)).map (·.2)).contains i) 9) gsNil))) fYes (fFz (fIf (fTst (fBin (sIn true) (fV 10) (fTup (fCons (fFz (fV 6)) (fCons (fFz (fV 8)) fNil))))) (fFz (fV 9)) (fFz (fBin sIx (fLst (fCons (fC (.str "red")) (fCons (fC (.str "black")) fNil))) (fCall (s1 gInt) (fCons (fBin (sEq false) (fV 9) (fC (.str "red"))) fNil)))))) [10, 9]) fNil)) fNil)))))
 (fExpr (fMt sExt (fV 5) (fCons (fFz (fLst (fCons (fFz (fBin sAdd (fSl (fV 3) fONone (fOSome (fNeg (fC (.int 1))))) (fTup (fCons (fC (.str "green")) fNil)))) (fCons (fFz (fCall (s1 gTuple) (fCons (fComp (fSeqI (fFz (fV 3))) (gN (fun i => !(([("one", 9)] : List (Str × Nat)).map (·.2)).contains i) 9) fYes (fBin (sEq false) (fV 9) (fC (.str "red"))) [9]) fNil))) fNil)))) fNil)))))
 fPass)
 (fSeq (fFor (fSeqI (fFz (fV 5))) (gN (cK [0]) 11)
 (fSeq (fAsg (fFz (fIf (fTru (fV 2)) (fFz (fFz (fCallK 0 2 [1, 0] m_shows_coloring fNil (fCons (fFz (fV 11)) (fCons (fFz (fV 1)) fNil))))) (fFz (fFz (fCallF m_shows_coloring (fCons (fFz (fV 1)) (fCons (fFz (fV 11)) fNil))))))) (gN (cK [0]) 12))
 (fSeq (fIfS (fNot (fTru (fFz (fCallF (m__law_same 16) (fCons (fFz (fV 12)) (fCons (fFz (fFz (fCallF m__law_shown (fCons (fFz (fV 1)) (fCons (fFz (fV 11)) fNil))))) fNil))))))
 (fRet (fC (.bl false)))
 fPass)
 (fAsg (fNotV (fV 2)) (gN (cK [0]) 2)))))
 (fRet (fC (.bl true)))))))
def m__law_colors_right : FF := fnG 3 13 (cK [0]) b__law_colors_right
theorem ok__law_colors_right (T : Txt K mg) : ∃ fd, Fn P w K mg base "_law_colors_right" s__law_colors_right 34 ["box", "binary", "named"] m__law_colors_right fd := by
  obtain ⟨gl, fd, Fu⟩ := T.d__law_colors_right
  obtain ⟨fd_coloring_of, G_coloring_of⟩ := ok_coloring_of (P := P) (w := w) (base := base) T
  obtain ⟨fd__law_size, G__law_size⟩ := ok__law_size (P := P) (w := w) (base := base) T
  obtain ⟨fd__law_take, G__law_take⟩ := ok__law_take (P := P) (w := w) (base := base) T
  obtain ⟨fd_shows_coloring, G_shows_coloring⟩ := ok_shows_coloring (P := P) (w := w) (base := base) T
  obtain ⟨fd__law_same, G__law_same⟩ := ok__law_same (P := P) (w := w) (base := base) T
  obtain ⟨fd__law_shown, G__law_shown⟩ := ok__law_shown (P := P) (w := w) (base := base) T
  exact ⟨fd, okD gl Fu sc__law_colors_right (cK [0]) (fun cdv A outer s H E hr =>
 (bCons (sPar (i := 3) (j := 4) rfl sc__law_colors_right.nd rfl rfl (by decide) rfl rfl (aCons (eFz (eFz (eFn G_coloring_of (hr.mono (by decide)) rfl (fun _ _ _ _ _ _ us hl => match us, hl with | [_], _ => rfl) (aCons (eFz (eVar (pv 1))) aNil) (fan_cons fan_nil)))) (aCons (eFz (eFz (eFn (G__law_size 16) (hr.mono (by decide)) rfl (fun _ _ _ _ _ _ us hl => match us, hl with | [_], _ => rfl) (aCons (eFz (eVar (pv 1))) aNil) (fan_cons fan_nil)))) aNil)) rfl)
 (bCons (sSet (i := 5) sc__law_colors_right.nd rfl (by first | exact .inl rfl | exact .inr rfl) (eLst (aCons (eCallT call_tuple_of c_tuple rfl T.z_tuple B.tuple (aCons (eOp op_mulA b_mul (eLst (aCons eStr aNil)) (eVar (pv 4))) aNil)) (aCons (eCallT call_tuple_of c_tuple rfl T.z_tuple B.tuple (aCons (eComp (own := [("k", 6)]) rfl sc__law_colors_right.nd (iRg1 rfl T.z_range (aCons (eFz (eVar (pv 4))) aNil)) (blkOk_by (own := [("k", 6)]) (N := N__law_colors_right) (sc := defScope s__law_colors_right) (by decide +kernel)) (fun _ _ _ _ _ => (gName' (pg_name (i := 6) sc__law_colors_right.nd rfl (by first | exact .inl rfl | exact .inr rfl)))) (fun _ _ _ _ _ => bYes) (fun _ _ _ _ _ => (eFz (eIx ix_seq b_ix (eLst (aCons eStr (aCons eStr aNil))) (eFz (eFn G__law_take (hr.mono (by decide)) rfl (fun _ _ _ _ _ _ us hl => match us, hl with | [_, _], _ => rfl) (aCons (eVar (pv 0)) (aCons eInt aNil)) (fan_cons (fan_cons fan_nil)))) (fun _ _ => rfl))))) aNil)) (aCons eNon (aCons (eFz (eIf (tCmpX op_isNotA (b_is true) (eVar (pv 3)) eNon (nomark _)) (eFz (eCallT call_list_of c_list rfl T.z_list B.list (aCons (eVar (pv 3)) aNil))) (eFz (eLst aNil)))) (aCons (eOp op_mulA b_mul (eTup (aCons eStr aNil)) (eOp op_addA b_add (eVar (pv 4)) eInt)) aNil)))))))
 (bCons (sIf (tCmpX op_isNotA (b_is true) (eVar (pv 3)) eNon (nomark _))
 (bCons (sExpr (eMt PySem.F.plainAttrs_list PySem.F.slot_list_append PySem.F.type_list_append mt_append m_app (eVar (pv 5)) (aCons (eFz (eVar (pv 3))) aNil)))
 (bCons (sFor PassesOwn.never rfl (iRg1 rfl T.z_range (aCons eInt aNil)) (gName' (pg_name (i := 7) sc__law_colors_right.nd rfl (by first | exact .inl rfl | exact .inr rfl)))
 (bCons (sUnp rfl (aCons (eFz (eFz (eFn G__law_take (hr.mono (by decide)) rfl (fun _ _ _ _ _ _ us hl => match us, hl with | [_, _], _ => rfl) (aCons (eVar (pv 0)) (aCons (eFz (eCallB (call_max2 rfl) c_max2 rfl T.z_max B.max (aCons eInt (aCons (eVar (pv 4)) aNil)))) aNil)) (fan_cons (fan_cons fan_nil))))) (aCons (eFz (eFz (eFn G__law_take (hr.mono (by decide)) rfl (fun _ _ _ _ _ _ us hl => match us, hl with | [_, _], _ => rfl) (aCons (eVar (pv 0)) (aCons (eFz (eCallB (call_max2 rfl) c_max2 rfl T.z_max B.max (aCons eInt (aCons (eVar (pv 4)) aNil)))) aNil)) (fan_cons (fan_cons fan_nil))))) aNil)) (gmConsX (gName' (pg_name (i := 6) sc__law_colors_right.nd rfl (by first | exact .inl rfl | exact .inr rfl))) (gmConsX (gName' (pg_name (i := 8) sc__law_colors_right.nd rfl (by first | exact .inl rfl | exact .inr rfl))) gmNilX)))
 (bOne (sExpr (eMt PySem.F.plainAttrs_list PySem.F.slot_list_append PySem.F.type_list_append mt_append m_app (eVar (pv 5)) (aCons (eCallT call_tuple_of c_tuple rfl T.z_tuple B.tuple (aCons (eComp (own := [("at", 10), ("one", 9)]) rfl sc__law_colors_right.nd (iEnumAX rfl T.z_enumerate (aCons (eFz (eVar (pv 3))) aNil)) (blkOk_by (own := [("at", 10), ("one", 9)]) (N := N__law_colors_right) (sc := defScope s__law_colors_right) (by decide +kernel)) (fun _ _ _ _ _ => (gTupX rfl (gsConsX (gName' (pg_name (i := 10) sc__law_colors_right.nd rfl (by first | exact .inl rfl | exact .inr rfl))) (gsConsX (gName' (pg_name (i := 9) sc__law_colors_right.nd rfl (by first | exact .inl rfl | exact .inr rfl))) gsNilX)))) (fun _ _ _ _ _ => bYes) (fun _ _ _ _ _ => (eFz (eIf (tCmpX (op_notInP hr.units) (b_in true) (eVar (pv 10)) (eTup (aCons (eFz (eVar (pv 6))) (aCons (eFz (eVar (pv 8))) aNil))) (by rfl)) (eFz (eVar (pv 9))) (eFz (eIx ix_seq b_ix (eLst (aCons eStr (aCons eStr aNil))) (eCallT call_int1 c_int rfl T.z_int B.int (aCons (eCmp (op_eqA hr.units) (b_eq false) (eVar (pv 9)) eStr (nomark _)) aNil)) (fun _ _ => rfl))))))) aNil)) aNil))))))
 (bOne (sExpr (eMt PySem.F.plainAttrs_list PySem.F.slot_list_extend PySem.F.type_list_extend mt_extA m_ext (eVar (pv 5)) (aCons (eFz (eLst (aCons (eFz (eOp op_addA b_add (eSl (eVar (pv 3)) oNone (oSome (eNeg eInt))) (eTup (aCons eStr aNil)))) (aCons (eFz (eCallT call_tuple_of c_tuple rfl T.z_tuple B.tuple (aCons (eComp (own := [("one", 9)]) rfl sc__law_colors_right.nd (iSeq (eFz (eVar (pv 3)))) (blkOk_by (own := [("one", 9)]) (N := N__law_colors_right) (sc := defScope s__law_colors_right) (by decide +kernel)) (fun _ _ _ _ _ => (gName' (pg_name (i := 9) sc__law_colors_right.nd rfl (by first | exact .inl rfl | exact .inr rfl)))) (fun _ _ _ _ _ => bYes) (fun _ _ _ _ _ => (eCmp (op_eqA hr.units) (b_eq false) (eVar (pv 9)) eStr (nomark _)))) aNil))) aNil)))) aNil))))))
 bNil)
 (bCons (sFor PassesOwn.never rfl (iSeq (eFz (eVar (pv 5)))) (gName' (pg_name (i := 11) sc__law_colors_right.nd rfl (by first | exact .inl rfl | exact .inr rfl)))
 (bCons (sSet (i := 12) sc__law_colors_right.nd rfl (by first | exact .inl rfl | exact .inr rfl) (eFz (eIf (tTru (eVar (pv 2))) (eFz (eFz (eFnK0 (ks := ["value", "binary"]) G_shows_coloring (hr.mono (by decide)) (by rfl) [1, 0] rfl (fun _ _ _ _ _ _ us ws h1 h2 => match us, ws, h1, h2 with | [], [_, _], _, _ => rfl) (kCons (eFz (eVar (pv 11))) (kCons (eFz (eVar (pv 1))) kNil))))) (eFz (eFz (eFn G_shows_coloring (hr.mono (by decide)) rfl (fun _ _ _ _ _ _ us hl => match us, hl with | [_, _], _ => rfl) (aCons (eFz (eVar (pv 1))) (aCons (eFz (eVar (pv 11))) aNil)) (fan_cons (fan_cons fan_nil))))))))
 (bCons (sIf (tNotX (tTru (eFz (eFn (G__law_same 16) (hr.mono (by decide)) rfl (fun _ _ _ _ _ _ us hl => match us, hl with | [_, _], _ => rfl) (aCons (eFz (eVar (pv 12))) (aCons (eFz (eFz (eFn G__law_shown (hr.mono (by decide)) rfl (fun _ _ _ _ _ _ us hl => match us, hl with | [_, _], _ => rfl) (aCons (eFz (eVar (pv 1))) (aCons (eFz (eVar (pv 11))) aNil)) (fan_cons (fan_cons fan_nil))))) aNil)) (fan_cons (fan_cons fan_nil))))))
 (bOne (sRet eBl))
 bNil)
 (bOne (sSet (i := 2) sc__law_colors_right.nd rfl (by first | exact .inl rfl | exact .inr rfl) (eNot (eVar (pv 2))))))))
 (bOne (sRet eBl)))))))⟩
/-! ### law -/
abbrev N_law : List Str := ["script", "k", "box", "every", "binary", "great", "named", "many", "other"]
theorem sc_law : FnScope N_law ["script"] (defScope s_law) := ⟨rfl, rfl, rfl, by decide +kernel, rfl, by decide +kernel, by decide +kernel⟩
def b_law : FS :=
 (fSeq (fFor (fRg1 (fCons (fFz (fCall (s2 gMax2) (fCons (fC (.int 2)) (fCons (fCall (s2 gMin2) (fCons (fC (.int 3)) (fCons (fCall (s1 gLen) (fCons (fV 0) fNil)) fNil))) fNil)))) fNil)) (gN (cK []) 1)
 (fSeq (fAsg (fCallF m__law_box (fCons (fFz (fFz (fCallF m__law_cell (fCons (fFz (fV 0)) (fCons (fFz (fV 1)) fNil))))) fNil)) (gN (cK []) 2))
 (fSeq (gPar (cK []) 6 7 (fCons (fBin (sEq false) (fFz (fCallF m__law_take (fCons (fV 2) (fCons (fC (.int 2)) fNil)))) (fC (.int 0))) (fCons (fFz (fIf (fTst (fBin (sEq false) (fV 1) (fC (.int 0)))) (fFz (fBin sIx (fLst (fCons (fC (.int 7)) (fCons (fFz (fFz (fCallF m__law_take (fCons (fV 2) (fCons (fC (.int 7)) fNil))))) (fCons (fFz (fFz (fCallF m__law_take (fCons (fV 2) (fCons (fC (.int 6)) fNil))))) fNil)))) (fFz (fCallF m__law_take (fCons (fV 2) (fCons (fC (.int 3)) fNil)))))) (fFz (fFz (fCallF m__law_take (fCons (fV 2) (fCons (fC (.int 6)) fNil))))))) fNil)))
 (fSeq (fAsg (fFz (fIf (fTru (fV 6)) (fFz (fFz (fCallK 0 1 [0] m_binaries fNil (fCons (fFz (fV 7)) fNil)))) (fFz (fFz (fCallF m_binaries (fCons (fFz (fV 7)) fNil)))))) (gN (cK []) 3))
 (fSeq (fFor (fSeqI (fFz (fV 3))) (gN (cK []) 4)
 (fSeq (fIfS (fNot (fTru (fFz (fCallF m__law_tree_right (fCons (fFz (fV 4)) (fCons (fFz (fV 6)) fNil))))))
 (fRet (fC (.bl false)))
 fPass)
 (fAsg (fNotV (fV 6)) (gN (cK []) 6))))
 (fSeq (fAsg (fFz (fFz (fCallF m__law_great (fCons (fV 2) fNil)))) (gN (cK []) 5))
 (fFor (fSeqI (fFz (fTup (fCons (fFz (fBin sIx (fV 5) (fC (.int 0)))) (fCons (fFz (fBin sIx (fV 5) (fC (.int 1)))) (fCons (fFz (fBin sIx (fV 5) (fC (.int 0)))) (fCons (fFz (fBin sIx (fV 3) (fFz (fCallF m__law_take (fCons (fV 2) (fCons (fFz (fCall (s1 gLen) (fCons (fV 3) fNil))) fNil)))))) fNil))))))) (gN (cK []) 4)
 (fSeq (fIfS (fOr (fNot (fTru (fFz (fCallF m__law_tree_right (fCons (fFz (fV 4)) (fCons (fFz (fV 6)) fNil)))))) (fNot (fTru (fFz (fCallF m__law_colors_right (fCons (fV 2) (fCons (fFz (fV 4)) (fCons (fNotV (fV 6)) fNil))))))))
 (fRet (fC (.bl false)))
 fPass)
 (fSeq (fAsg (fFz (fFz (fCallF m_binary_mirror (fCons (fFz (fV 4)) fNil)))) (gN (cK []) 8))
 (fSeq (fIfS (fNot (fTru (fFz (fCallF (m__law_same 16) (fCons (fFz (fFz (fCallF m_black_heights (fCons (fFz (fV 8)) fNil)))) (fCons (fFz (fFz (fCallF m_black_heights (fCons (fFz (fV 4)) fNil)))) fNil))))))
 (fRet (fC (.bl false)))
 fPass)
 (fAsg (fNotV (fV 6)) (gN (cK []) 6))))))))))))
 (fRet (fC (.bl true))))
def m_law : FF := fnG 1 9 (cK []) b_law
theorem ok_law (T : Txt K mg) : ∃ fd, Fn P w K mg base "law" s_law 35 ["script"] m_law fd := by
  obtain ⟨gl, fd, Fu⟩ := T.d_law
  obtain ⟨fd__law_box, G__law_box⟩ := ok__law_box (P := P) (w := w) (base := base) T
  obtain ⟨fd__law_cell, G__law_cell⟩ := ok__law_cell (P := P) (w := w) (base := base) T
  obtain ⟨fd__law_take, G__law_take⟩ := ok__law_take (P := P) (w := w) (base := base) T
  obtain ⟨fd_binaries, G_binaries⟩ := ok_binaries (P := P) (w := w) (base := base) T
  obtain ⟨fd__law_tree_right, G__law_tree_right⟩ := ok__law_tree_right (P := P) (w := w) (base := base) T
  obtain ⟨fd__law_great, G__law_great⟩ := ok__law_great (P := P) (w := w) (base := base) T
  obtain ⟨fd__law_colors_right, G__law_colors_right⟩ := ok__law_colors_right (P := P) (w := w) (base := base) T
  obtain ⟨fd_binary_mirror, G_binary_mirror⟩ := ok_binary_mirror (P := P) (w := w) (base := base) T
  obtain ⟨fd__law_same, G__law_same⟩ := ok__law_same (P := P) (w := w) (base := base) T
  obtain ⟨fd_black_heights, G_black_heights⟩ := ok_black_heights (P := P) (w := w) (base := base) T
  exact ⟨fd, okD gl Fu sc_law (cK []) (fun cdv A outer s H E hr =>
 (bCons (sFor PassesOwn.never rfl (iRg1 rfl T.z_range (aCons (eFz (eCallB (call_max2 rfl) c_max2 rfl T.z_max B.max (aCons eInt (aCons (eCallB (call_min2 rfl) c_min2 rfl T.z_min B.min (aCons eInt (aCons (eCallB call_len c_len rfl T.z_len PySem.boot_len (aCons (eVar (pv 0)) aNil)) aNil))) aNil)))) aNil)) (gName' (pg_name (i := 1) sc_law.nd rfl (by first | exact .inl rfl | exact .inr rfl)))
 (bCons (sSet (i := 2) sc_law.nd rfl (by first | exact .inl rfl | exact .inr rfl) (eFn G__law_box (hr.mono (by decide)) rfl (fun _ _ _ _ _ _ us hl => match us, hl with | [_], _ => rfl) (aCons (eFz (eFz (eFn G__law_cell (hr.mono (by decide)) rfl (fun _ _ _ _ _ _ us hl => match us, hl with | [_, _], _ => rfl) (aCons (eFz (eVar (pv 0))) (aCons (eFz (eVar (pv 1))) aNil)) (fan_cons (fan_cons fan_nil))))) aNil) (fan_cons fan_nil)))
 (bCons (sPar (i := 6) (j := 7) rfl sc_law.nd rfl rfl (by decide) rfl rfl (aCons (eCmp (op_eqA hr.units) (b_eq false) (eFz (eFn G__law_take (hr.mono (by decide)) rfl (fun _ _ _ _ _ _ us hl => match us, hl with | [_, _], _ => rfl) (aCons (eVar (pv 2)) (aCons eInt aNil)) (fan_cons (fan_cons fan_nil)))) eInt (nomark _)) (aCons (eFz (eIf (tCmpX (op_eqA hr.units) (b_eq false) (eVar (pv 1)) eInt (nomark _)) (eFz (eIx ix_seq b_ix (eLst (aCons eInt (aCons (eFz (eFz (eFn G__law_take (hr.mono (by decide)) rfl (fun _ _ _ _ _ _ us hl => match us, hl with | [_, _], _ => rfl) (aCons (eVar (pv 2)) (aCons eInt aNil)) (fan_cons (fan_cons fan_nil))))) (aCons (eFz (eFz (eFn G__law_take (hr.mono (by decide)) rfl (fun _ _ _ _ _ _ us hl => match us, hl with | [_, _], _ => rfl) (aCons (eVar (pv 2)) (aCons eInt aNil)) (fan_cons (fan_cons fan_nil))))) aNil)))) (eFz (eFn G__law_take (hr.mono (by decide)) rfl (fun _ _ _ _ _ _ us hl => match us, hl with | [_, _], _ => rfl) (aCons (eVar (pv 2)) (aCons eInt aNil)) (fan_cons (fan_cons fan_nil)))) (fun _ _ => rfl))) (eFz (eFz (eFn G__law_take (hr.mono (by decide)) rfl (fun _ _ _ _ _ _ us hl => match us, hl with | [_, _], _ => rfl) (aCons (eVar (pv 2)) (aCons eInt aNil)) (fan_cons (fan_cons fan_nil))))))) aNil)) rfl)
 (bCons (sSet (i := 3) sc_law.nd rfl (by first | exact .inl rfl | exact .inr rfl) (eFz (eIf (tTru (eVar (pv 6))) (eFz (eFz (eFnK0 (ks := ["nodes"]) G_binaries (hr.mono (by decide)) (by rfl) [0] rfl (fun _ _ _ _ _ _ us ws h1 h2 => match us, ws, h1, h2 with | [], [_], _, _ => rfl) (kCons (eFz (eVar (pv 7))) kNil)))) (eFz (eFz (eFn G_binaries (hr.mono (by decide)) rfl (fun _ _ _ _ _ _ us hl => match us, hl with | [_], _ => rfl) (aCons (eFz (eVar (pv 7))) aNil) (fan_cons fan_nil)))))))
 (bCons (sFor PassesOwn.never rfl (iSeq (eFz (eVar (pv 3)))) (gName' (pg_name (i := 4) sc_law.nd rfl (by first | exact .inl rfl | exact .inr rfl)))
 (bCons (sIf (tNotX (tTru (eFz (eFn G__law_tree_right (hr.mono (by decide)) rfl (fun _ _ _ _ _ _ us hl => match us, hl with | [_, _], _ => rfl) (aCons (eFz (eVar (pv 4))) (aCons (eFz (eVar (pv 6))) aNil)) (fan_cons (fan_cons fan_nil))))))
 (bOne (sRet eBl))
 bNil)
 (bOne (sSet (i := 6) sc_law.nd rfl (by first | exact .inl rfl | exact .inr rfl) (eNot (eVar (pv 6)))))))
 (bCons (sSet (i := 5) sc_law.nd rfl (by first | exact .inl rfl | exact .inr rfl) (eFz (eFz (eFn G__law_great (hr.mono (by decide)) rfl (fun _ _ _ _ _ _ us hl => match us, hl with | [_], _ => rfl) (aCons (eVar (pv 2)) aNil) (fan_cons fan_nil)))))
 (bOne (sFor PassesOwn.never rfl (iSeq (eFz (eTup (aCons (eFz (eIx ix_seq b_ix (eVar (pv 5)) eInt (fun _ _ => rfl))) (aCons (eFz (eIx ix_seq b_ix (eVar (pv 5)) eInt (fun _ _ => rfl))) (aCons (eFz (eIx ix_seq b_ix (eVar (pv 5)) eInt (fun _ _ => rfl))) (aCons (eFz (eIx ix_seq b_ix (eVar (pv 3)) (eFz (eFn G__law_take (hr.mono (by decide)) rfl (fun _ _ _ _ _ _ us hl => match us, hl with | [_, _], _ => rfl) (aCons (eVar (pv 2)) (aCons (eFz (eCallB call_len c_len rfl T.z_len PySem.boot_len (aCons (eVar (pv 3)) aNil))) aNil)) (fan_cons (fan_cons fan_nil)))) (fun _ _ => rfl))) aNil))))))) (gName' (pg_name (i := 4) sc_law.nd rfl (by first | exact .inl rfl | exact .inr rfl)))
 (bCons (sIf (PW.pt (wOr (tNotX (tTru (eFz (eFn G__law_tree_right (hr.mono (by decide)) rfl (fun _ _ _ _ _ _ us hl => match us, hl with | [_, _], _ => rfl) (aCons (eFz (eVar (pv 4))) (aCons (eFz (eVar (pv 6))) aNil)) (fan_cons (fan_cons fan_nil)))))) (wOr1 (tNotX (tTru (eFz (eFn G__law_colors_right (hr.mono (by decide)) rfl (fun _ _ _ _ _ _ us hl => match us, hl with | [_, _, _], _ => rfl) (aCons (eVar (pv 2)) (aCons (eFz (eVar (pv 4))) (aCons (eNot (eVar (pv 6))) aNil))) (fan_cons (fan_cons (fan_cons fan_nil))))))))))
 (bOne (sRet eBl))
 bNil)
 (bCons (sSet (i := 8) sc_law.nd rfl (by first | exact .inl rfl | exact .inr rfl) (eFz (eFz (eFn G_binary_mirror (hr.mono (by decide)) rfl (fun _ _ _ _ _ _ us hl => match us, hl with | [_], _ => rfl) (aCons (eFz (eVar (pv 4))) aNil) (fan_cons fan_nil)))))
 (bCons (sIf (tNotX (tTru (eFz (eFn (G__law_same 16) (hr.mono (by decide)) rfl (fun _ _ _ _ _ _ us hl => match us, hl with | [_, _], _ => rfl) (aCons (eFz (eFz (eFn G_black_heights (hr.mono (by decide)) rfl (fun _ _ _ _ _ _ us hl => match us, hl with | [_], _ => rfl) (aCons (eFz (eVar (pv 8))) aNil) (fan_cons fan_nil)))) (aCons (eFz (eFz (eFn G_black_heights (hr.mono (by decide)) rfl (fun _ _ _ _ _ _ us hl => match us, hl with | [_], _ => rfl) (aCons (eFz (eVar (pv 4))) aNil) (fan_cons fan_nil)))) aNil)) (fan_cons (fan_cons fan_nil))))))
 (bOne (sRet eBl))
 bNil)
 (bOne (sSet (i := 6) sc_law.nd rfl (by first | exact .inl rfl | exact .inr rfl) (eNot (eVar (pv 6))))))))))))))))
 (bOne (sRet eBl))))⟩
end
end Lk29

set_option Elab.async false
set_option linter.all false
set_option maxRecDepth 100000
set_option maxHeartbeats 4000000
namespace Lk29
open PySem PySem.Spec PyProof.Rows L2 Dv
theorem e__law_box : b__law_box = (fRet (fMv (fLst (fCons (fCall (s1 gAbs) (fCons (fV 0) fNil)) (fCons (fBin sGe (fCall (s1 gAbs) (fCons (fV 0) fNil)) (fBin sPow (fC (.int 10)) (fC (.int 18)))) (fCons (fBin sMod (fCall (s1 gInt) (fCons (fCall (s1 gAbs) (fCons (fV 0) fNil)) fNil)) (fC (.int 2147483629))) (fCons (fC (.int 0)) fNil))))))) := rfl
theorem y__law_box : m__law_box = fnG 1 1 (cK []) b__law_box := rfl
theorem e__law_take : b__law_take = (fSeq (fIfS (fAnd (fTru (fBin sIx (fV 0) (fC (.int 1)))) (fTst (fBin sGt (fBin sIx (fV 0) (fC (.int 0))) (fC (.int 0))))) (fSeq (fAsg (fFz (fBin sMod (fCall (s1 gInt) (fCons (fBin sIx (fV 0) (fC (.int 0))) fNil)) (fV 1))) (gN (cK [0]) 2)) (fSeq (fAsg (fFz (fBin sDiv (fBin sIx (fV 0) (fC (.int 0))) (fV 1))) (gSet (fV 0) (fC (.int 0)))) (fRet (fFz (fV 2))))) fPass) (fSeq (fAsg (fFz (fBin sAdd (fBin sIx (fV 0) (fC (.int 3))) (fC (.int 1)))) (gSet (fV 0) (fC (.int 3)))) (fSeq (fAsg (fFz (fBin sMod (fCall (s1 gInt) (fCons (fBin sPow (fBin sAdd (fBin sAdd (fBin sIx (fV 0) (fC (.int 2))) (fBin sMul (fC (.int 15485959)) (fBin sIx (fV 0) (fC (.int 3))))) (fC (.int 179424779))) (fC (.int 5))) fNil)) (fC (.int 2147483647)))) (gN (cK [0]) 3)) (fRet (fFz (fBin sMod (fCall (s1 gInt) (fCons (fBin sDiv (fBin sMod (fCall (s1 gInt) (fCons (fBin sPow (fBin sAdd (fBin sMul (fV 3) (fC (.int 48271))) (fBin sMul (fC (.int 104743)) (fBin sIx (fV 0) (fC (.int 3))))) (fC (.int 3))) fNil)) (fC (.int 2147483587))) (fC (.int 64))) fNil)) (fV 1))))))) := rfl
def s__law_take_1 : FS := (fIfS (fAnd (fTru (fBin sIx (fV 0) (fC (.int 1)))) (fTst (fBin sGt (fBin sIx (fV 0) (fC (.int 0))) (fC (.int 0))))) (fSeq (fAsg (fFz (fBin sMod (fCall (s1 gInt) (fCons (fBin sIx (fV 0) (fC (.int 0))) fNil)) (fV 1))) (gN (cK [0]) 2)) (fSeq (fAsg (fFz (fBin sDiv (fBin sIx (fV 0) (fC (.int 0))) (fV 1))) (gSet (fV 0) (fC (.int 0)))) (fRet (fFz (fV 2))))) fPass)
def s__law_take_2 : FS := (fAsg (fFz (fBin sAdd (fBin sIx (fV 0) (fC (.int 3))) (fC (.int 1)))) (gSet (fV 0) (fC (.int 3))))
def s__law_take_3 : FS := (fAsg (fFz (fBin sMod (fCall (s1 gInt) (fCons (fBin sPow (fBin sAdd (fBin sAdd (fBin sIx (fV 0) (fC (.int 2))) (fBin sMul (fC (.int 15485959)) (fBin sIx (fV 0) (fC (.int 3))))) (fC (.int 179424779))) (fC (.int 5))) fNil)) (fC (.int 2147483647)))) (gN (cK [0]) 3))
def s__law_take_4 : FS := (fRet (fFz (fBin sMod (fCall (s1 gInt) (fCons (fBin sDiv (fBin sMod (fCall (s1 gInt) (fCons (fBin sPow (fBin sAdd (fBin sMul (fV 3) (fC (.int 48271))) (fBin sMul (fC (.int 104743)) (fBin sIx (fV 0) (fC (.int 3))))) (fC (.int 3))) fNil)) (fC (.int 2147483587))) (fC (.int 64))) fNil)) (fV 1))))
theorem e2__law_take : b__law_take = (fSeq s__law_take_1 (fSeq s__law_take_2 (fSeq s__law_take_3 s__law_take_4))) := rfl
theorem y__law_take : m__law_take = fnG 2 4 (cK [0]) b__law_take := rfl
def g__law_full_1 : FG := (gN (cK []) 2)
def l__law_full_2 : FS := (fAsg (fFz (fTup (fCons (fFz (fBin sIx (fV 1) (fBin sAdd (fBin sMul (fC (.int 2)) (fV 2)) (fC (.int 1))))) (fCons (fFz (fBin sIx (fV 1) (fBin sAdd (fBin sMul (fC (.int 2)) (fV 2)) (fC (.int 2))))) fNil)))) (gSet (fV 1) (fFz (fV 2))))
theorem e__law_full : b__law_full = (fSeq (fAsg (fBin sMul (fLst (fCons (fC .non) fNil)) (fBin sAdd (fBin sMul (fC (.int 2)) (fV 0)) (fC (.int 3)))) (gN (cK []) 1)) (fSeq (fFor (fRg3 (fCons (fFz (fBin sSub (fV 0) (fC (.int 1)))) (fCons (fNeg (fC (.int 1))) (fCons (fNeg (fC (.int 1))) fNil)))) g__law_full_1 l__law_full_2) (fRet (fFz (fBin sIx (fV 1) (fC (.int 0))))))) := rfl
def s__law_full_1 : FS := (fAsg (fBin sMul (fLst (fCons (fC .non) fNil)) (fBin sAdd (fBin sMul (fC (.int 2)) (fV 0)) (fC (.int 3)))) (gN (cK []) 1))
def s__law_full_2 : FS := (fFor (fRg3 (fCons (fFz (fBin sSub (fV 0) (fC (.int 1)))) (fCons (fNeg (fC (.int 1))) (fCons (fNeg (fC (.int 1))) fNil)))) g__law_full_1 l__law_full_2)
def s__law_full_3 : FS := (fRet (fFz (fBin sIx (fV 1) (fC (.int 0)))))
theorem e2__law_full : b__law_full = (fSeq s__law_full_1 (fSeq s__law_full_2 s__law_full_3)) := rfl
theorem y__law_full : m__law_full = fnG 1 3 (cK []) b__law_full := rfl
def g__law_comb_1 : FG := (gN (cK [0]) 3)
def l__law_comb_2 : FS := (fAsg (fFz (fBin sIx (fLst (fCons (fFz (fTup (fCons (fFz (fV 2)) (fCons (fC .non) fNil)))) (fCons (fFz (fTup (fCons (fC .non) (fCons (fFz (fV 2)) fNil)))) fNil))) (fFz (fCallF m__law_take (fCons (fV 0) (fCons (fC (.int 2)) fNil)))))) (gN (cK [0]) 2))
theorem e__law_comb : b__law_comb = (fSeq (fAsg (fC .non) (gN (cK [0]) 2)) (fSeq (fFor (fRg1 (fCons (fFz (fV 1)) fNil)) g__law_comb_1 l__law_comb_2) (fRet (fFz (fV 2))))) := rfl
def s__law_comb_1 : FS := (fAsg (fC .non) (gN (cK [0]) 2))
def s__law_comb_2 : FS := (fFor (fRg1 (fCons (fFz (fV 1)) fNil)) g__law_comb_1 l__law_comb_2)
def s__law_comb_3 : FS := (fRet (fFz (fV 2)))
theorem e2__law_comb : b__law_comb = (fSeq s__law_comb_1 (fSeq s__law_comb_2 s__law_comb_3)) := rfl
theorem y__law_comb : m__law_comb = fnG 2 4 (cK [0]) b__law_comb := rfl
def t__law_binary_1 : FT := (fTst (fBin sGt (fCall (s1 gLen) (fCons (fV 2) fNil)) (fC (.int 1))))
def l__law_binary_2 : FS := (fSeq (fAsg (fFz (fBin sIx (fLst (fCons (fFz (fFz (fCallF m__law_take (fCons (fV 0) (fCons (fFz (fBin sSub (fCall (s1 gLen) (fCons (fV 2) fNil)) (fC (.int 1)))) fNil))))) (fCons (fC (.int 0)) (fCons (fFz (fBin sSub (fCall (s1 gLen) (fCons (fV 2) fNil)) (fC (.int 2)))) (fCons (fFz (fFz (fCallF m__law_take (fCons (fV 0) (fCons (fFz (fBin sSub (fCall (s1 gLen) (fCons (fV 2) fNil)) (fC (.int 1)))) fNil))))) fNil))))) (fV 3))) (gN (cK [0]) 4)) (fSeq (gPar (cK [0]) 5 6 (fCons (fFz (fBin sIx (fV 2) (fV 4))) (fCons (fFz (fBin sIx (fV 2) (fBin sAdd (fV 4) (fC (.int 1))))) fNil))) (fSeq (fIfS (fAnd (fTst (fBin (sIs false) (fBin sIx (fV 6) (fC (.int 0))) (fC .non))) (fOr (fTst (fBin (sIs true) (fBin sIx (fV 5) (fC (.int 1))) (fC .non))) (fTst (fBin (sEq false) (fFz (fCallF m__law_take (fCons (fV 0) (fCons (fC (.int 2)) fNil)))) (fC (.int 0)))))) (fAsg (fFz (fTup (fCons (fFz (fV 5)) (fCons (fFz (fBin sIx (fV 6) (fC (.int 1)))) fNil)))) (gN (cK [0]) 7)) (fIfS (fTst (fBin (sIs false) (fBin sIx (fV 5) (fC (.int 1))) (fC .non))) (fAsg (fFz (fTup (fCons (fFz (fBin sIx (fV 5) (fC (.int 0)))) (fCons (fFz (fV 6)) fNil)))) (gN (cK [0]) 7)) (fAsg (fC .non) (gN (cK [0]) 7)))) (fSeq (fIfS (fTst (fBin (sIs false) (fV 7) (fC .non))) (fRet (fFz (fFz (fCallF m__law_comb (fCons (fV 0) (fCons (fFz (fV 1)) fNil)))))) fPass) (fAsg (fFz (fBin sAdd (fBin sAdd (fSl (fV 2) fONone (fOSome (fV 4))) (fLst (fCons (fFz (fV 7)) fNil))) (fSl (fV 2) (fOSome (fBin sAdd (fV 4) (fC (.int 2)))) fONone))) (gN (cK [0]) 2))))))
def q_l__law_binary_2_1 : FS := (fAsg (fFz (fBin sIx (fLst (fCons (fFz (fFz (fCallF m__law_take (fCons (fV 0) (fCons (fFz (fBin sSub (fCall (s1 gLen) (fCons (fV 2) fNil)) (fC (.int 1)))) fNil))))) (fCons (fC (.int 0)) (fCons (fFz (fBin sSub (fCall (s1 gLen) (fCons (fV 2) fNil)) (fC (.int 2)))) (fCons (fFz (fFz (fCallF m__law_take (fCons (fV 0) (fCons (fFz (fBin sSub (fCall (s1 gLen) (fCons (fV 2) fNil)) (fC (.int 1)))) fNil))))) fNil))))) (fV 3))) (gN (cK [0]) 4))
def q_l__law_binary_2_2 : FS := (gPar (cK [0]) 5 6 (fCons (fFz (fBin sIx (fV 2) (fV 4))) (fCons (fFz (fBin sIx (fV 2) (fBin sAdd (fV 4) (fC (.int 1))))) fNil)))
def q_l__law_binary_2_3 : FS := (fIfS (fAnd (fTst (fBin (sIs false) (fBin sIx (fV 6) (fC (.int 0))) (fC .non))) (fOr (fTst (fBin (sIs true) (fBin sIx (fV 5) (fC (.int 1))) (fC .non))) (fTst (fBin (sEq false) (fFz (fCallF m__law_take (fCons (fV 0) (fCons (fC (.int 2)) fNil)))) (fC (.int 0)))))) (fAsg (fFz (fTup (fCons (fFz (fV 5)) (fCons (fFz (fBin sIx (fV 6) (fC (.int 1)))) fNil)))) (gN (cK [0]) 7)) (fIfS (fTst (fBin (sIs false) (fBin sIx (fV 5) (fC (.int 1))) (fC .non))) (fAsg (fFz (fTup (fCons (fFz (fBin sIx (fV 5) (fC (.int 0)))) (fCons (fFz (fV 6)) fNil)))) (gN (cK [0]) 7)) (fAsg (fC .non) (gN (cK [0]) 7))))
def q_l__law_binary_2_4 : FS := (fIfS (fTst (fBin (sIs false) (fV 7) (fC .non))) (fRet (fFz (fFz (fCallF m__law_comb (fCons (fV 0) (fCons (fFz (fV 1)) fNil)))))) fPass)
def q_l__law_binary_2_5 : FS := (fAsg (fFz (fBin sAdd (fBin sAdd (fSl (fV 2) fONone (fOSome (fV 4))) (fLst (fCons (fFz (fV 7)) fNil))) (fSl (fV 2) (fOSome (fBin sAdd (fV 4) (fC (.int 2)))) fONone))) (gN (cK [0]) 2))
theorem e_l__law_binary_2 : l__law_binary_2 = (fSeq q_l__law_binary_2_1 (fSeq q_l__law_binary_2_2 (fSeq q_l__law_binary_2_3 (fSeq q_l__law_binary_2_4 q_l__law_binary_2_5)))) := rfl
theorem e__law_binary : b__law_binary = (fSeq (fIfS (fTst (fBin (sEq false) (fV 1) (fC (.int 0)))) (fRet (fC .non)) fPass) (fSeq (gPar (cK [0]) 2 3 (fCons (fFz (fBin sMul (fLst (fCons (fFz (fTup (fCons (fC .non) (fCons (fC .non) fNil)))) fNil)) (fV 1))) (fCons (fFz (fFz (fCallF m__law_take (fCons (fV 0) (fCons (fC (.int 4)) fNil))))) fNil))) (fSeq (fWhile t__law_binary_1 l__law_binary_2 1000) (fRet (fFz (fBin sIx (fV 2) (fC (.int 0)))))))) := rfl
def s__law_binary_1 : FS := (fIfS (fTst (fBin (sEq false) (fV 1) (fC (.int 0)))) (fRet (fC .non)) fPass)
def s__law_binary_2 : FS := (gPar (cK [0]) 2 3 (fCons (fFz (fBin sMul (fLst (fCons (fFz (fTup (fCons (fC .non) (fCons (fC .non) fNil)))) fNil)) (fV 1))) (fCons (fFz (fFz (fCallF m__law_take (fCons (fV 0) (fCons (fC (.int 4)) fNil))))) fNil)))
def s__law_binary_3 : FS := (fWhile t__law_binary_1 l__law_binary_2 1000)
def s__law_binary_4 : FS := (fRet (fFz (fBin sIx (fV 2) (fC (.int 0)))))
theorem e2__law_binary : b__law_binary = (fSeq s__law_binary_1 (fSeq s__law_binary_2 (fSeq s__law_binary_3 s__law_binary_4))) := rfl
theorem y__law_binary : m__law_binary = fnG 2 8 (cK [0]) b__law_binary := rfl
def g__law_great_1 : FG := (gN (cK [0]) 3)
def l__law_great_2 : FS := (fSeq (fAsg (fFz (fFz (fCallF m__law_take (fCons (fV 0) (fCons (fC (.int 4)) fNil))))) (gN (cK [0]) 4)) (fIfS (fTst (fBin (sEq false) (fV 4) (fC (.int 0)))) (fExpr (fMt sApp (fV 2) (fCons (fCallF m__law_full (fCons (fFz (fV 1)) fNil)) fNil))) (fIfS (fTst (fBin (sEq false) (fV 4) (fC (.int 1)))) (fSeq (fAsg (fFz (fBin sSub (fBin sDiv (fV 1) (fC (.int 2))) (fFz (fCallF m__law_take (fCons (fV 0) (fCons (fC (.int 3)) fNil)))))) (gN (cK [0]) 5)) (fExpr (fMt sApp (fV 2) (fCons (fTup (fCons (fFz (fFz (fCallF m__law_full (fCons (fFz (fV 5)) fNil)))) (fCons (fFz (fFz (fCallF m__law_full (fCons (fFz (fBin sSub (fBin sSub (fV 1) (fC (.int 1))) (fV 5))) fNil)))) fNil))) fNil)))) (fIfS (fTst (fBin (sEq false) (fV 4) (fC (.int 2)))) (fSeq (fAsg (fFz (fBin sAdd (fC (.int 1)) (fFz (fCallF m__law_take (fCons (fV 0) (fCons (fFz (fBin sSub (fV 1) (fC (.int 2)))) fNil)))))) (gN (cK [0]) 5)) (fExpr (fMt sApp (fV 2) (fCons (fTup (fCons (fFz (fFz (fCallF m__law_full (fCons (fFz (fV 5)) fNil)))) (fCons (fFz (fFz (fCallF m__law_binary (fCons (fV 0) (fCons (fFz (fBin sSub (fBin sSub (fV 1) (fC (.int 1))) (fV 5))) fNil))))) fNil))) fNil)))) (fExpr (fMt sApp (fV 2) (fCons (fCallF m__law_binary (fCons (fV 0) (fCons (fFz (fV 1)) fNil))) fNil)))))))
def q_l__law_great_2_1 : FS := (fAsg (fFz (fFz (fCallF m__law_take (fCons (fV 0) (fCons (fC (.int 4)) fNil))))) (gN (cK [0]) 4))
def q_l__law_great_2_2 : FS := (fIfS (fTst (fBin (sEq false) (fV 4) (fC (.int 0)))) (fExpr (fMt sApp (fV 2) (fCons (fCallF m__law_full (fCons (fFz (fV 1)) fNil)) fNil))) (fIfS (fTst (fBin (sEq false) (fV 4) (fC (.int 1)))) (fSeq (fAsg (fFz (fBin sSub (fBin sDiv (fV 1) (fC (.int 2))) (fFz (fCallF m__law_take (fCons (fV 0) (fCons (fC (.int 3)) fNil)))))) (gN (cK [0]) 5)) (fExpr (fMt sApp (fV 2) (fCons (fTup (fCons (fFz (fFz (fCallF m__law_full (fCons (fFz (fV 5)) fNil)))) (fCons (fFz (fFz (fCallF m__law_full (fCons (fFz (fBin sSub (fBin sSub (fV 1) (fC (.int 1))) (fV 5))) fNil)))) fNil))) fNil)))) (fIfS (fTst (fBin (sEq false) (fV 4) (fC (.int 2)))) (fSeq (fAsg (fFz (fBin sAdd (fC (.int 1)) (fFz (fCallF m__law_take (fCons (fV 0) (fCons (fFz (fBin sSub (fV 1) (fC (.int 2)))) fNil)))))) (gN (cK [0]) 5)) (fExpr (fMt sApp (fV 2) (fCons (fTup (fCons (fFz (fFz (fCallF m__law_full (fCons (fFz (fV 5)) fNil)))) (fCons (fFz (fFz (fCallF m__law_binary (fCons (fV 0) (fCons (fFz (fBin sSub (fBin sSub (fV 1) (fC (.int 1))) (fV 5))) fNil))))) fNil))) fNil)))) (fExpr (fMt sApp (fV 2) (fCons (fCallF m__law_binary (fCons (fV 0) (fCons (fFz (fV 1)) fNil))) fNil))))))
theorem e_l__law_great_2 : l__law_great_2 = (fSeq q_l__law_great_2_1 q_l__law_great_2_2) := rfl
theorem e__law_great : b__law_great = (fSeq (gPar (cK [0]) 1 2 (fCons (fFz (fBin sAdd (fC (.int 8)) (fFz (fCallF m__law_take (fCons (fV 0) (fCons (fC (.int 5)) fNil)))))) (fCons (fLst fNil) fNil))) (fSeq (fFor (fRg1 (fCons (fC (.int 2)) fNil)) g__law_great_1 l__law_great_2) (fRet (fFz (fV 2))))) := rfl
def s__law_great_1 : FS := (gPar (cK [0]) 1 2 (fCons (fFz (fBin sAdd (fC (.int 8)) (fFz (fCallF m__law_take (fCons (fV 0) (fCons (fC (.int 5)) fNil)))))) (fCons (fLst fNil) fNil)))
def s__law_great_2 : FS := (fFor (fRg1 (fCons (fC (.int 2)) fNil)) g__law_great_1 l__law_great_2)
def s__law_great_3 : FS := (fRet (fFz (fV 2)))
theorem e2__law_great : b__law_great = (fSeq s__law_great_1 (fSeq s__law_great_2 s__law_great_3)) := rfl
theorem y__law_great : m__law_great = fnG 1 6 (cK [0]) b__law_great := rfl
theorem e__law_cell : b__law_cell = (fRet (fFz (fIf (fTst (fBin sLt (fV 1) (fCall (s1 gLen) (fCons (fV 0) fNil)))) (fFz (fBin sIx (fV 0) (fV 1))) (fFz (fBin sAdd (fBin sMul (fC (.int 9343)) (fV 1)) (fBin sMod (fCall (s1 gInt) (fCons (fCall (s1 gSum) (fCons (fSl (fV 0) fONone (fOSome (fC (.int 1)))) fNil)) fNil)) (fC (.int 1000003)))))))) := rfl
theorem y__law_cell : m__law_cell = fnG 2 2 (cK []) b__law_cell := rfl
theorem e_is_integer : b_is_integer = (fRet (fAndV (fIsi "int" (fV 0)) (fNotV (fIsi "bool" (fV 0))))) := rfl
theorem y_is_integer : m_is_integer = fnG 1 1 (cK []) b_is_integer := rfl
theorem e_is_between : b_is_between = (fRet (fAndV (fFz (fCallF m_is_integer (fCons (fFz (fV 0)) fNil))) (fCh sLe sLe (fV 1) (fV 0) (fV 2)))) := rfl
theorem y_is_between : m_is_between = fnG 3 3 (cK []) b_is_between := rfl
def g_choose_1 : FG := (gN (cK []) 3)
def l_choose_2 : FS := (fAsg (fFz (fBin sDiv (fBin sMul (fV 2) (fBin sSub (fV 0) (fV 3))) (fBin sAdd (fV 3) (fC (.int 1))))) (gN (cK []) 2))
theorem e_choose : b_choose = (fSeq (fAsg (fC (.int 1)) (gN (cK []) 2)) (fSeq (fFor (fRg1 (fCons (fFz (fV 1)) fNil)) g_choose_1 l_choose_2) (fRet (fFz (fIf (fTst (fBin sGe (fV 1) (fC (.int 0)))) (fFz (fV 2)) (fC (.int 0))))))) := rfl
def s_choose_1 : FS := (fAsg (fC (.int 1)) (gN (cK []) 2))
def s_choose_2 : FS := (fFor (fRg1 (fCons (fFz (fV 1)) fNil)) g_choose_1 l_choose_2)
def s_choose_3 : FS := (fRet (fFz (fIf (fTst (fBin sGe (fV 1) (fC (.int 0)))) (fFz (fV 2)) (fC (.int 0)))))
theorem e2_choose : b_choose = (fSeq s_choose_1 (fSeq s_choose_2 s_choose_3)) := rfl
theorem y_choose : m_choose = fnG 2 4 (cK []) b_choose := rfl
theorem e_catalan : b_catalan = (fRet (fFz (fBin sDiv (fFz (fCallF m_choose (fCons (fFz (fBin sMul (fC (.int 2)) (fV 0))) (fCons (fFz (fV 0)) fNil)))) (fBin sAdd (fV 0) (fC (.int 1)))))) := rfl
theorem y_catalan : m_catalan = fnG 1 1 (cK []) b_catalan := rfl
def t_tree_at_1 : FT := (fTst (fBin sGe (fV 3) (fBin sMul (fFz (fCallF m_catalan (fCons (fFz (fV 2)) fNil))) (fFz (fCallF m_catalan (fCons (fFz (fBin sSub (fBin sSub (fV 0) (fC (.int 1))) (fV 2))) fNil))))))
def l_tree_at_2 : FS := (fSeq (fAsg (fFz (fBin sSub (fV 3) (fBin sMul (fFz (fCallF m_catalan (fCons (fFz (fV 2)) fNil))) (fFz (fCallF m_catalan (fCons (fFz (fBin sSub (fBin sSub (fV 0) (fC (.int 1))) (fV 2))) fNil)))))) (gN (cK []) 3)) (fAsg (fFz (fBin sAdd (fV 2) (fC (.int 1)))) (gN (cK []) 2)))
def q_l_tree_at_2_1 : FS := (fAsg (fFz (fBin sSub (fV 3) (fBin sMul (fFz (fCallF m_catalan (fCons (fFz (fV 2)) fNil))) (fFz (fCallF m_catalan (fCons (fFz (fBin sSub (fBin sSub (fV 0) (fC (.int 1))) (fV 2))) fNil)))))) (gN (cK []) 3))
def q_l_tree_at_2_2 : FS := (fAsg (fFz (fBin sAdd (fV 2) (fC (.int 1)))) (gN (cK []) 2))
theorem e_l_tree_at_2 : l_tree_at_2 = (fSeq q_l_tree_at_2_1 q_l_tree_at_2_2) := rfl
theorem e_tree_at (r : FF) : b_tree_at r = (fSeq (fIfS (fTst (fBin (sEq false) (fV 0) (fC (.int 0)))) (fRet (fC .non)) fPass) (fSeq (gPar (cK []) 2 3 (fCons (fC (.int 0)) (fCons (fFz (fV 1)) fNil))) (fSeq (fWhile t_tree_at_1 l_tree_at_2 1000) (fSeq (fAsg (fFz (fFz (fCallF m_catalan (fCons (fFz (fBin sSub (fBin sSub (fV 0) (fC (.int 1))) (fV 2))) fNil)))) (gN (cK []) 4)) (fRet (fFz (fTup (fCons (fFz (fFz (fCallF r (fCons (fFz (fV 2)) (fCons (fFz (fBin sDiv (fV 3) (fV 4))) fNil))))) (fCons (fFz (fFz (fCallF r (fCons (fFz (fBin sSub (fBin sSub (fV 0) (fC (.int 1))) (fV 2))) (fCons (fFz (fBin sMod (fV 3) (fV 4))) fNil))))) fNil))))))))) := rfl
def s_tree_at_1 : FS := (fIfS (fTst (fBin (sEq false) (fV 0) (fC (.int 0)))) (fRet (fC .non)) fPass)
def s_tree_at_2 : FS := (gPar (cK []) 2 3 (fCons (fC (.int 0)) (fCons (fFz (fV 1)) fNil)))
def s_tree_at_3 : FS := (fWhile t_tree_at_1 l_tree_at_2 1000)
def s_tree_at_4 : FS := (fAsg (fFz (fFz (fCallF m_catalan (fCons (fFz (fBin sSub (fBin sSub (fV 0) (fC (.int 1))) (fV 2))) fNil)))) (gN (cK []) 4))
def s_tree_at_5 (r : FF) : FS := (fRet (fFz (fTup (fCons (fFz (fFz (fCallF r (fCons (fFz (fV 2)) (fCons (fFz (fBin sDiv (fV 3) (fV 4))) fNil))))) (fCons (fFz (fFz (fCallF r (fCons (fFz (fBin sSub (fBin sSub (fV 0) (fC (.int 1))) (fV 2))) (fCons (fFz (fBin sMod (fV 3) (fV 4))) fNil))))) fNil)))))
theorem e2_tree_at (r : FF) : b_tree_at r = (fSeq s_tree_at_1 (fSeq s_tree_at_2 (fSeq s_tree_at_3 (fSeq s_tree_at_4 (s_tree_at_5 r))))) := rfl
theorem y_tree_at (k : Nat) : m_tree_at (k + 1) = fnG 2 5 (cK []) (b_tree_at (m_tree_at k)) := rfl
def g_binaries_1 : FG := (gN (cN [1]) 1)
def v_binaries_2 : FE := (fCallF (m_tree_at 16) (fCons (fFz (fV 0)) (fCons (fFz (fV 1)) fNil)))
theorem e_binaries : b_binaries = (fSeq (fIfS (fNot (fTru (fFz (fCallF m_is_between (fCons (fFz (fV 0)) (fCons (fC (.int 0)) (fCons (fFz (fC (.int 7))) fNil))))))) fNever fPass) (fRet (fFz (fComp (fRg1 (fCons (fFz (fFz (fCallF m_catalan (fCons (fFz (fV 0)) fNil)))) fNil)) g_binaries_1 fYes v_binaries_2 [1])))) := rfl
def s_binaries_1 : FS := (fIfS (fNot (fTru (fFz (fCallF m_is_between (fCons (fFz (fV 0)) (fCons (fC (.int 0)) (fCons (fFz (fC (.int 7))) fNil))))))) fNever fPass)
def s_binaries_2 : FS := (fRet (fFz (fComp (fRg1 (fCons (fFz (fFz (fCallF m_catalan (fCons (fFz (fV 0)) fNil)))) fNil)) g_binaries_1 fYes v_binaries_2 [1])))
theorem e2_binaries : b_binaries = (fSeq s_binaries_1 s_binaries_2) := rfl
theorem y_binaries : m_binaries = fnG 1 2 (cK []) b_binaries := rfl
def t_is_binary_1 : FT := (fTst (fBin (sEq true) (fV 1) (fLst fNil)))
def l_is_binary_2 : FS := (fSeq (fAsg (fFz (fMt sPop (fV 1) fNil)) (gN (cK []) 3)) (fIfS (fTst (fBin (sIs true) (fV 3) (fC .non))) (fSeq (fAsg (fFz (fBin sAdd (fV 2) (fC (.int 1)))) (gN (cK []) 2)) (fSeq (fIfS (fOr (fNot (fTru (fIsi "tuple" (fV 3)))) (fOr (fTst (fBin (sEq true) (fCall (s1 gLen) (fCons (fV 3) fNil)) (fC (.int 2)))) (fTst (fBin sGt (fV 2) (fC (.int 12)))))) (fRet (fC (.bl false))) fPass) (fExpr (fMt sExt (fV 1) (fCons (fFz (fV 3)) fNil))))) fPass))
def q_l_is_binary_2_1 : FS := (fAsg (fFz (fMt sPop (fV 1) fNil)) (gN (cK []) 3))
def q_l_is_binary_2_2 : FS := (fIfS (fTst (fBin (sIs true) (fV 3) (fC .non))) (fSeq (fAsg (fFz (fBin sAdd (fV 2) (fC (.int 1)))) (gN (cK []) 2)) (fSeq (fIfS (fOr (fNot (fTru (fIsi "tuple" (fV 3)))) (fOr (fTst (fBin (sEq true) (fCall (s1 gLen) (fCons (fV 3) fNil)) (fC (.int 2)))) (fTst (fBin sGt (fV 2) (fC (.int 12)))))) (fRet (fC (.bl false))) fPass) (fExpr (fMt sExt (fV 1) (fCons (fFz (fV 3)) fNil))))) fPass)
theorem e_l_is_binary_2 : l_is_binary_2 = (fSeq q_l_is_binary_2_1 q_l_is_binary_2_2) := rfl
theorem e_is_binary : b_is_binary = (fSeq (gPar (cK []) 1 2 (fCons (fLst (fCons (fFz (fV 0)) fNil)) (fCons (fC (.int 0)) fNil))) (fSeq (fWhile t_is_binary_1 l_is_binary_2 1000) (fRet (fC (.bl true))))) := rfl
def s_is_binary_1 : FS := (gPar (cK []) 1 2 (fCons (fLst (fCons (fFz (fV 0)) fNil)) (fCons (fC (.int 0)) fNil)))
def s_is_binary_2 : FS := (fWhile t_is_binary_1 l_is_binary_2 1000)
def s_is_binary_3 : FS := (fRet (fC (.bl true)))
theorem e2_is_binary : b_is_binary = (fSeq s_is_binary_1 (fSeq s_is_binary_2 s_is_binary_3)) := rfl
theorem y_is_binary : m_is_binary = fnG 1 4 (cK []) b_is_binary := rfl
theorem e_check_binary : b_check_binary = (fIfS (fNot (fTru (fFz (fCallF m_is_binary (fCons (fFz (fV 0)) fNil))))) fNever fPass) := rfl
theorem y_check_binary : m_check_binary = fnG 1 1 (cK []) b_check_binary := rfl
theorem e_turned (r : FF) : b_turned r = (fRet (fFz (fIf (fTst (fBin (sIs false) (fV 0) (fC .non))) (fC .non) (fFz (fTup (fCons (fFz (fFz (fCallF r (fCons (fFz (fBin sIx (fV 0) (fC (.int 1)))) fNil)))) (fCons (fFz (fFz (fCallF r (fCons (fFz (fBin sIx (fV 0) (fC (.int 0)))) fNil)))) fNil))))))) := rfl
theorem y_turned (k : Nat) : m_turned (k + 1) = fnG 1 1 (cK []) (b_turned (m_turned k)) := rfl
theorem e_binary_mirror : b_binary_mirror = (fSeq (fExpr (fCallF m_check_binary (fCons (fFz (fV 0)) fNil))) (fRet (fFz (fFz (fCallF (m_turned 16) (fCons (fFz (fV 0)) fNil)))))) := rfl
def s_binary_mirror_1 : FS := (fExpr (fCallF m_check_binary (fCons (fFz (fV 0)) fNil)))
def s_binary_mirror_2 : FS := (fRet (fFz (fFz (fCallF (m_turned 16) (fCons (fFz (fV 0)) fNil)))))
theorem e2_binary_mirror : b_binary_mirror = (fSeq s_binary_mirror_1 s_binary_mirror_2) := rfl
theorem y_binary_mirror : m_binary_mirror = fnG 1 1 (cK []) b_binary_mirror := rfl
theorem e__law_ways (r : FF) : b__law_ways r = (fSeq (fIfS (fTst (fBin (sIs false) (fV 0) (fC .non))) (fRet (fFz (fTup (fCons (fC (.int 0)) (fCons (fC (.int 0)) fNil))))) fPass) (fSeq (gPar (cK []) 1 2 (fCons (fFz (fFz (fCallF r (fCons (fFz (fBin sIx (fV 0) (fC (.int 0)))) fNil)))) (fCons (fFz (fFz (fCallF r (fCons (fFz (fBin sIx (fV 0) (fC (.int 1)))) fNil)))) fNil))) (fRet (fFz (fTup (fCons (fFz (fBin sAdd (fC (.int 1)) (fCall (s2 gMax2) (fCons (fBin sIx (fV 1) (fC (.int 0))) (fCons (fBin sIx (fV 2) (fC (.int 0))) fNil))))) (fCons (fFz (fBin sAdd (fC (.int 1)) (fCall (s2 gMin2) (fCons (fBin sIx (fV 1) (fC (.int 1))) (fCons (fBin sIx (fV 2) (fC (.int 1))) fNil))))) fNil))))))) := rfl
def s__law_ways_1 : FS := (fIfS (fTst (fBin (sIs false) (fV 0) (fC .non))) (fRet (fFz (fTup (fCons (fC (.int 0)) (fCons (fC (.int 0)) fNil))))) fPass)
def s__law_ways_2 (r : FF) : FS := (gPar (cK []) 1 2 (fCons (fFz (fFz (fCallF r (fCons (fFz (fBin sIx (fV 0) (fC (.int 0)))) fNil)))) (fCons (fFz (fFz (fCallF r (fCons (fFz (fBin sIx (fV 0) (fC (.int 1)))) fNil)))) fNil)))
def s__law_ways_3 : FS := (fRet (fFz (fTup (fCons (fFz (fBin sAdd (fC (.int 1)) (fCall (s2 gMax2) (fCons (fBin sIx (fV 1) (fC (.int 0))) (fCons (fBin sIx (fV 2) (fC (.int 0))) fNil))))) (fCons (fFz (fBin sAdd (fC (.int 1)) (fCall (s2 gMin2) (fCons (fBin sIx (fV 1) (fC (.int 1))) (fCons (fBin sIx (fV 2) (fC (.int 1))) fNil))))) fNil)))))
theorem e2__law_ways (r : FF) : b__law_ways r = (fSeq s__law_ways_1 (fSeq (s__law_ways_2 r) s__law_ways_3)) := rfl
theorem y__law_ways (k : Nat) : m__law_ways (k + 1) = fnG 1 3 (cK []) (b__law_ways (m__law_ways k)) := rfl
theorem e__law_nodes (r : FF) : b__law_nodes r = (fRet (fFz (fIf (fTst (fBin (sIs false) (fV 0) (fC .non))) (fFz (fLst fNil)) (fFz (fBin sAdd (fBin sAdd (fFz (fCallF r (fCons (fFz (fBin sIx (fV 0) (fC (.int 0)))) fNil))) (fLst (fCons (fFz (fV 0)) fNil))) (fFz (fCallF r (fCons (fFz (fBin sIx (fV 0) (fC (.int 1)))) fNil)))))))) := rfl
theorem y__law_nodes (k : Nat) : m__law_nodes (k + 1) = fnG 1 1 (cK []) (b__law_nodes (m__law_nodes k)) := rfl
def t_size_of_1 : FT := (fTst (fBin (sEq true) (fV 2) (fLst fNil)))
def l_size_of_2 : FS := (fSeq (fAsg (fFz (fMt sPop (fV 2) fNil)) (gN (cK []) 3)) (fIfS (fTst (fBin (sIs true) (fV 3) (fC .non))) (fSeq (fAsg (fFz (fBin sAdd (fV 1) (fC (.int 1)))) (gN (cK []) 1)) (fExpr (fMt sExt (fV 2) (fCons (fFz (fV 3)) fNil)))) fPass))
def q_l_size_of_2_1 : FS := (fAsg (fFz (fMt sPop (fV 2) fNil)) (gN (cK []) 3))
def q_l_size_of_2_2 : FS := (fIfS (fTst (fBin (sIs true) (fV 3) (fC .non))) (fSeq (fAsg (fFz (fBin sAdd (fV 1) (fC (.int 1)))) (gN (cK []) 1)) (fExpr (fMt sExt (fV 2) (fCons (fFz (fV 3)) fNil)))) fPass)
theorem e_l_size_of_2 : l_size_of_2 = (fSeq q_l_size_of_2_1 q_l_size_of_2_2) := rfl
theorem e_size_of : b_size_of = (fSeq (gPar (cK []) 1 2 (fCons (fC (.int 0)) (fCons (fLst (fCons (fFz (fV 0)) fNil)) fNil))) (fSeq (fWhile t_size_of_1 l_size_of_2 1000) (fRet (fFz (fV 1))))) := rfl
def s_size_of_1 : FS := (gPar (cK []) 1 2 (fCons (fC (.int 0)) (fCons (fLst (fCons (fFz (fV 0)) fNil)) fNil)))
def s_size_of_2 : FS := (fWhile t_size_of_1 l_size_of_2 1000)
def s_size_of_3 : FS := (fRet (fFz (fV 1)))
theorem e2_size_of : b_size_of = (fSeq s_size_of_1 (fSeq s_size_of_2 s_size_of_3)) := rfl
theorem y_size_of : m_size_of = fnG 1 4 (cK []) b_size_of := rfl
theorem e_stretches_of (r : FF) : b_stretches_of r = (fSeq (fIfS (fTst (fBin (sIs false) (fV 0) (fC .non))) (fRet (fFz (fLst fNil))) fPass) (fSeq (fAsg (fFz (fBin sAdd (fV 1) (fFz (fCallF m_size_of (fCons (fFz (fBin sIx (fV 0) (fC (.int 0)))) fNil))))) (gN (cK []) 2)) (fRet (fFz (fBin sAdd (fBin sAdd (fFz (fCallF r (fCons (fFz (fBin sIx (fV 0) (fC (.int 0)))) (fCons (fFz (fV 1)) fNil)))) (fLst (fCons (fFz (fTup (fCons (fFz (fV 2)) (fCons (fFz (fBin sIx (fV 0) (fC (.int 0)))) (fCons (fFz (fBin sIx (fV 0) (fC (.int 1)))) fNil))))) fNil))) (fFz (fCallF r (fCons (fFz (fBin sIx (fV 0) (fC (.int 1)))) (fCons (fFz (fBin sAdd (fV 2) (fC (.int 1)))) fNil))))))))) := rfl
def s_stretches_of_1 : FS := (fIfS (fTst (fBin (sIs false) (fV 0) (fC .non))) (fRet (fFz (fLst fNil))) fPass)
def s_stretches_of_2 : FS := (fAsg (fFz (fBin sAdd (fV 1) (fFz (fCallF m_size_of (fCons (fFz (fBin sIx (fV 0) (fC (.int 0)))) fNil))))) (gN (cK []) 2))
def s_stretches_of_3 (r : FF) : FS := (fRet (fFz (fBin sAdd (fBin sAdd (fFz (fCallF r (fCons (fFz (fBin sIx (fV 0) (fC (.int 0)))) (fCons (fFz (fV 1)) fNil)))) (fLst (fCons (fFz (fTup (fCons (fFz (fV 2)) (fCons (fFz (fBin sIx (fV 0) (fC (.int 0)))) (fCons (fFz (fBin sIx (fV 0) (fC (.int 1)))) fNil))))) fNil))) (fFz (fCallF r (fCons (fFz (fBin sIx (fV 0) (fC (.int 1)))) (fCons (fFz (fBin sAdd (fV 2) (fC (.int 1)))) fNil)))))))
theorem e2_stretches_of (r : FF) : b_stretches_of r = (fSeq s_stretches_of_1 (fSeq s_stretches_of_2 (s_stretches_of_3 r))) := rfl
theorem y_stretches_of (k : Nat) : m_stretches_of (k + 1) = fnG 2 3 (cK []) (b_stretches_of (m_stretches_of k)) := rfl
theorem e_height_in (r : FF) : b_height_in r = (fRet (fFz (fIf (fTst (fBin (sIs false) (fV 0) (fC .non))) (fC (.int 0)) (fFz (fBin sAdd (fC (.int 1)) (fCall (s2 gMax2) (fCons (fFz (fCallF r (fCons (fFz (fBin sIx (fV 0) (fC (.int 0)))) fNil))) (fCons (fFz (fCallF r (fCons (fFz (fBin sIx (fV 0) (fC (.int 1)))) fNil))) fNil)))))))) := rfl
theorem y_height_in (k : Nat) : m_height_in (k + 1) = fnG 1 1 (cK []) (b_height_in (m_height_in k)) := rfl
theorem e_shortest_in (r : FF) : b_shortest_in r = (fRet (fFz (fIf (fTst (fBin (sIs false) (fV 0) (fC .non))) (fC (.int 0)) (fFz (fBin sAdd (fC (.int 1)) (fCall (s2 gMin2) (fCons (fFz (fCallF r (fCons (fFz (fBin sIx (fV 0) (fC (.int 0)))) fNil))) (fCons (fFz (fCallF r (fCons (fFz (fBin sIx (fV 0) (fC (.int 1)))) fNil))) fNil)))))))) := rfl
theorem y_shortest_in (k : Nat) : m_shortest_in (k + 1) = fnG 1 1 (cK []) (b_shortest_in (m_shortest_in k)) := rfl
def g_fault_of_1 : FG := (gTupl 3 (gsCons (gN (cK []) 1) (gsCons (gN (cK []) 2) (gsCons (gN (cK []) 3) gsNil))))
def l_fault_of_2 : FS := (fIfS (fTst (fBin sGt (fBin sAdd (fC (.int 1)) (fCall (s2 gMax2) (fCons (fFz (fCallF (m_height_in 16) (fCons (fFz (fV 2)) fNil))) (fCons (fFz (fCallF (m_height_in 16) (fCons (fFz (fV 3)) fNil))) fNil)))) (fBin sMul (fC (.int 2)) (fBin sAdd (fC (.int 1)) (fCall (s2 gMin2) (fCons (fFz (fCallF (m_shortest_in 16) (fCons (fFz (fV 2)) fNil))) (fCons (fFz (fCallF (m_shortest_in 16) (fCons (fFz (fV 3)) fNil))) fNil))))))) (fRet (fFz (fV 1))) fPass)
theorem e_fault_of : b_fault_of = (fSeq (fFor (fSeqI (fFz (fFz (fCallF (m_stretches_of 16) (fCons (fFz (fV 0)) (fCons (fC (.int 0)) fNil)))))) g_fault_of_1 l_fault_of_2) (fRet (fC .non))) := rfl
def s_fault_of_1 : FS := (fFor (fSeqI (fFz (fFz (fCallF (m_stretches_of 16) (fCons (fFz (fV 0)) (fCons (fC (.int 0)) fNil)))))) g_fault_of_1 l_fault_of_2)
def s_fault_of_2 : FS := (fRet (fC .non))
theorem e2_fault_of : b_fault_of = (fSeq s_fault_of_1 s_fault_of_2) := rfl
theorem y_fault_of : m_fault_of = fnG 1 4 (cK []) b_fault_of := rfl
theorem e_color_break : b_color_break = (fSeq (fExpr (fCallF m_check_binary (fCons (fFz (fV 0)) fNil))) (fRet (fFz (fFz (fCallF m_fault_of (fCons (fFz (fV 0)) fNil)))))) := rfl
def s_color_break_1 : FS := (fExpr (fCallF m_check_binary (fCons (fFz (fV 0)) fNil)))
def s_color_break_2 : FS := (fRet (fFz (fFz (fCallF m_fault_of (fCons (fFz (fV 0)) fNil)))))
theorem e2_color_break : b_color_break = (fSeq s_color_break_1 s_color_break_2) := rfl
theorem y_color_break : m_color_break = fnG 1 1 (cK []) b_color_break := rfl
theorem e_numbers_of : b_numbers_of = (fSeq (fIfS (fTst (fBin (sIs true) (fFz (fCallF m_fault_of (fCons (fFz (fV 0)) fNil))) (fC .non))) (fRet (fFz (fLst fNil))) fPass) (fRet (fFz (fLRg (fR2 (fFz (fBin sDiv (fBin sAdd (fFz (fCallF (m_height_in 16) (fCons (fFz (fV 0)) fNil))) (fC (.int 1))) (fC (.int 2)))) (fFz (fBin sAdd (fFz (fCallF (m_shortest_in 16) (fCons (fFz (fV 0)) fNil))) (fC (.int 1))))))))) := rfl
def s_numbers_of_1 : FS := (fIfS (fTst (fBin (sIs true) (fFz (fCallF m_fault_of (fCons (fFz (fV 0)) fNil))) (fC .non))) (fRet (fFz (fLst fNil))) fPass)
def s_numbers_of_2 : FS := (fRet (fFz (fLRg (fR2 (fFz (fBin sDiv (fBin sAdd (fFz (fCallF (m_height_in 16) (fCons (fFz (fV 0)) fNil))) (fC (.int 1))) (fC (.int 2)))) (fFz (fBin sAdd (fFz (fCallF (m_shortest_in 16) (fCons (fFz (fV 0)) fNil))) (fC (.int 1))))))))
theorem e2_numbers_of : b_numbers_of = (fSeq s_numbers_of_1 s_numbers_of_2) := rfl
theorem y_numbers_of : m_numbers_of = fnG 1 1 (cK []) b_numbers_of := rfl
theorem e_black_heights : b_black_heights = (fSeq (fExpr (fCallF m_check_binary (fCons (fFz (fV 0)) fNil))) (fRet (fFz (fCall (s1 gTuple) (fCons (fFz (fCallF m_numbers_of (fCons (fFz (fV 0)) fNil))) fNil))))) := rfl
def s_black_heights_1 : FS := (fExpr (fCallF m_check_binary (fCons (fFz (fV 0)) fNil)))
def s_black_heights_2 : FS := (fRet (fFz (fCall (s1 gTuple) (fCons (fFz (fCallF m_numbers_of (fCons (fFz (fV 0)) fNil))) fNil))))
theorem e2_black_heights : b_black_heights = (fSeq s_black_heights_1 s_black_heights_2) := rfl
theorem y_black_heights : m_black_heights = fnG 1 1 (cK []) b_black_heights := rfl
def g__law_same_1 : FG := (gN (cN [2]) 2)
def t__law_same_2 : FT := (fTst (fBin (sEq true) (fSl (fV 0) (fOSome (fV 2)) (fOSome (fBin sAdd (fV 2) (fC (.int 1))))) (fBin sIx (fV 1) (fV 2))))
def v__law_same_3 : FE := (fFz (fV 2))
def g__law_same_4 : FG := (gN (cN [2]) 2)
def t__law_same_5 (r : FF) : FT := (fNot (fTru (fFz (fCallF r (fCons (fFz (fBin sIx (fV 0) (fV 2))) (fCons (fFz (fBin sIx (fV 1) (fV 2))) fNil))))))
def v__law_same_6 : FE := (fFz (fV 2))
theorem e__law_same (r : FF) : b__law_same r = (fSeq (fIfS (fOr (fTst (fBin (sIs false) (fV 1) (fC .non))) (fTru (fIsi "bool" (fV 1)))) (fRet (fFz (fIf (fTst (fBin (sIs false) (fV 1) (fC .non))) (fBin (sIs false) (fV 0) (fC .non)) (fAndV (fIsi "bool" (fV 0)) (fBin (sEq false) (fBin (sIs false) (fV 0) (fC (.bl true))) (fBin (sIs false) (fV 1) (fC (.bl true)))))))) fPass) (fSeq (fIfS (fTru (fIsi "int" (fV 1))) (fRet (fAndV (fIsi "int" (fV 0)) (fAndV (fNotV (fIsi "bool" (fV 0))) (fBin (sEq false) (fBin sSub (fCall (s1 gInt) (fCons (fV 0) fNil)) (fV 1)) (fC (.int 0)))))) fPass) (fSeq (fIfS (fTru (fIsi "str" (fV 1))) (fRet (fAndV (fIsi "str" (fV 0)) (fAndV (fBin (sEq false) (fCall (s1 gLen) (fCons (fV 0) fNil)) (fCall (s1 gLen) (fCons (fV 1) fNil))) (fBin (sEq false) (fComp (fRg1 (fCons (fFz (fCall (s1 gLen) (fCons (fV 1) fNil))) fNil)) g__law_same_1 t__law_same_2 v__law_same_3 [2]) (fLst fNil))))) fPass) (fSeq (fIfS (fTru (fIsi "dict" (fV 1))) fNever fPass) (fSeq (fIfS (fOr (fTst (fBin (sEq true) (fIsi "list" (fV 0)) (fIsi "list" (fV 1)))) (fTst (fBin (sEq true) (fIsi "tuple" (fV 0)) (fIsi "tuple" (fV 1))))) (fRet (fC (.bl false))) fPass) (fSeq (fIfS (fOr (fNot (fTru (fIsi2 "list" "tuple" (fV 0)))) (fTst (fBin (sEq true) (fCall (s1 gLen) (fCons (fV 0) fNil)) (fCall (s1 gLen) (fCons (fV 1) fNil))))) (fRet (fC (.bl false))) fPass) (fRet (fBin (sEq false) (fComp (fRg1 (fCons (fFz (fCall (s1 gLen) (fCons (fV 1) fNil))) fNil)) g__law_same_4 (t__law_same_5 r) v__law_same_6 [2]) (fLst fNil))))))))) := rfl
def s__law_same_1 : FS := (fIfS (fOr (fTst (fBin (sIs false) (fV 1) (fC .non))) (fTru (fIsi "bool" (fV 1)))) (fRet (fFz (fIf (fTst (fBin (sIs false) (fV 1) (fC .non))) (fBin (sIs false) (fV 0) (fC .non)) (fAndV (fIsi "bool" (fV 0)) (fBin (sEq false) (fBin (sIs false) (fV 0) (fC (.bl true))) (fBin (sIs false) (fV 1) (fC (.bl true)))))))) fPass)
def s__law_same_2 : FS := (fIfS (fTru (fIsi "int" (fV 1))) (fRet (fAndV (fIsi "int" (fV 0)) (fAndV (fNotV (fIsi "bool" (fV 0))) (fBin (sEq false) (fBin sSub (fCall (s1 gInt) (fCons (fV 0) fNil)) (fV 1)) (fC (.int 0)))))) fPass)
def s__law_same_3 : FS := (fIfS (fTru (fIsi "str" (fV 1))) (fRet (fAndV (fIsi "str" (fV 0)) (fAndV (fBin (sEq false) (fCall (s1 gLen) (fCons (fV 0) fNil)) (fCall (s1 gLen) (fCons (fV 1) fNil))) (fBin (sEq false) (fComp (fRg1 (fCons (fFz (fCall (s1 gLen) (fCons (fV 1) fNil))) fNil)) g__law_same_1 t__law_same_2 v__law_same_3 [2]) (fLst fNil))))) fPass)
def s__law_same_4 : FS := (fIfS (fTru (fIsi "dict" (fV 1))) fNever fPass)
def s__law_same_5 : FS := (fIfS (fOr (fTst (fBin (sEq true) (fIsi "list" (fV 0)) (fIsi "list" (fV 1)))) (fTst (fBin (sEq true) (fIsi "tuple" (fV 0)) (fIsi "tuple" (fV 1))))) (fRet (fC (.bl false))) fPass)
def s__law_same_6 : FS := (fIfS (fOr (fNot (fTru (fIsi2 "list" "tuple" (fV 0)))) (fTst (fBin (sEq true) (fCall (s1 gLen) (fCons (fV 0) fNil)) (fCall (s1 gLen) (fCons (fV 1) fNil))))) (fRet (fC (.bl false))) fPass)
def s__law_same_7 (r : FF) : FS := (fRet (fBin (sEq false) (fComp (fRg1 (fCons (fFz (fCall (s1 gLen) (fCons (fV 1) fNil))) fNil)) g__law_same_4 (t__law_same_5 r) v__law_same_6 [2]) (fLst fNil)))
theorem e2__law_same (r : FF) : b__law_same r = (fSeq s__law_same_1 (fSeq s__law_same_2 (fSeq s__law_same_3 (fSeq s__law_same_4 (fSeq s__law_same_5 (fSeq s__law_same_6 (s__law_same_7 r))))))) := rfl
theorem y__law_same (k : Nat) : m__law_same (k + 1) = fnG 2 3 (cK []) (b__law_same (m__law_same k)) := rfl
def g_height_of_1 : FG := (gN (cN [3]) 3)
def t_height_of_2 : FT := (fTst (fBin (sIs true) (fV 3) (fC .non)))
def v_height_of_3 : FE := (fFz (fV 3))
def g_height_of_4 : FG := (gN (cN [3, 4]) 3)
def t_height_of_5 : FT := (fTst (fBin (sIs true) (fV 3) (fC .non)))
def g_height_of_6 : FG := (gN (cN [4]) 4)
def v_height_of_7 : FE := (fFz (fV 4))
def t_height_of_8 : FT := (fTst (fBin (sEq true) (fComp (fSeqI (fFz (fV 1))) g_height_of_1 t_height_of_2 v_height_of_3 [3]) (fLst fNil)))
def l_height_of_9 : FS := (gPar (cK []) 1 2 (fCons (fFz (fComp2 (fSeqI (fFz (fV 1))) g_height_of_4 t_height_of_5 (fSeqI (fFz (fV 3))) g_height_of_6 fYes v_height_of_7 [3, 4] [4])) (fCons (fFz (fBin sAdd (fV 2) (fC (.int 1)))) fNil)))
theorem e_height_of : b_height_of = (fSeq (gPar (cK []) 1 2 (fCons (fFz (fLst (fCons (fFz (fV 0)) fNil))) (fCons (fC (.int 0)) fNil))) (fSeq (fWhile t_height_of_8 l_height_of_9 1000) (fRet (fFz (fV 2))))) := rfl
def s_height_of_1 : FS := (gPar (cK []) 1 2 (fCons (fFz (fLst (fCons (fFz (fV 0)) fNil))) (fCons (fC (.int 0)) fNil)))
def s_height_of_2 : FS := (fWhile t_height_of_8 l_height_of_9 1000)
def s_height_of_3 : FS := (fRet (fFz (fV 2)))
theorem e2_height_of : b_height_of = (fSeq s_height_of_1 (fSeq s_height_of_2 s_height_of_3)) := rfl
theorem y_height_of : m_height_of = fnG 1 5 (cK []) b_height_of := rfl
theorem e_binary_height : b_binary_height = (fSeq (fExpr (fCallF m_check_binary (fCons (fFz (fV 0)) fNil))) (fRet (fFz (fFz (fCallF m_height_of (fCons (fFz (fV 0)) fNil)))))) := rfl
def s_binary_height_1 : FS := (fExpr (fCallF m_check_binary (fCons (fFz (fV 0)) fNil)))
def s_binary_height_2 : FS := (fRet (fFz (fFz (fCallF m_height_of (fCons (fFz (fV 0)) fNil)))))
theorem e2_binary_height : b_binary_height = (fSeq s_binary_height_1 s_binary_height_2) := rfl
theorem y_binary_height : m_binary_height = fnG 1 1 (cK []) b_binary_height := rfl
def g_colored_1 : FG := (gN (cK []) 5)
def l_colored_2 (r : FF) : FS := (fExpr (fMt sApp (fV 4) (fCons (fCallF r (fCons (fFz (fV 5)) (fCons (fFz (fV 3)) (fCons (fFz (fIf (fTst (fBin sLe (fFz (fCallF (m_height_in 16) (fCons (fFz (fV 5)) fNil))) (fBin sMul (fC (.int 2)) (fV 3)))) (fFz (fC (.str "black"))) (fFz (fC (.str "red"))))) fNil)))) fNil)))
theorem e_colored (r : FF) : b_colored r = (fSeq (fIfS (fTst (fBin (sIs false) (fV 0) (fC .non))) (fRet (fFz (fTup fNil))) fPass) (fSeq (fAsg (fFz (fBin sSub (fV 1) (fCall (s1 gInt) (fCons (fBin (sEq false) (fV 2) (fC (.str "black"))) fNil)))) (gN (cK []) 3)) (fSeq (fAsg (fLst fNil) (gN (cK []) 4)) (fSeq (fFor (fSeqI (fFz (fV 0))) g_colored_1 (l_colored_2 r)) (fRet (fFz (fBin sAdd (fBin sAdd (fBin sIx (fV 4) (fC (.int 0))) (fTup (fCons (fFz (fV 2)) fNil))) (fBin sIx (fV 4) (fC (.int 1)))))))))) := rfl
def s_colored_1 : FS := (fIfS (fTst (fBin (sIs false) (fV 0) (fC .non))) (fRet (fFz (fTup fNil))) fPass)
def s_colored_2 : FS := (fAsg (fFz (fBin sSub (fV 1) (fCall (s1 gInt) (fCons (fBin (sEq false) (fV 2) (fC (.str "black"))) fNil)))) (gN (cK []) 3))
def s_colored_3 : FS := (fAsg (fLst fNil) (gN (cK []) 4))
def s_colored_4 (r : FF) : FS := (fFor (fSeqI (fFz (fV 0))) g_colored_1 (l_colored_2 r))
def s_colored_5 : FS := (fRet (fFz (fBin sAdd (fBin sAdd (fBin sIx (fV 4) (fC (.int 0))) (fTup (fCons (fFz (fV 2)) fNil))) (fBin sIx (fV 4) (fC (.int 1))))))
theorem e2_colored (r : FF) : b_colored r = (fSeq s_colored_1 (fSeq s_colored_2 (fSeq s_colored_3 (fSeq (s_colored_4 r) s_colored_5)))) := rfl
theorem y_colored (k : Nat) : m_colored (k + 1) = fnG 3 6 (cK []) (b_colored (m_colored k)) := rfl
theorem e_coloring_of : b_coloring_of = (fSeq (fExpr (fCallF m_check_binary (fCons (fFz (fV 0)) fNil))) (fSeq (fAsg (fFz (fFz (fCallF m_numbers_of (fCons (fFz (fV 0)) fNil)))) (gN (cK []) 1)) (fRet (fFz (fIf (fTst (fBin (sEq true) (fV 1) (fLst fNil))) (fFz (fFz (fCallF (m_colored 16) (fCons (fFz (fV 0)) (fCons (fFz (fBin sIx (fV 1) (fC (.int 0)))) (fCons (fFz (fC (.str "black"))) fNil)))))) (fC .non)))))) := rfl
def s_coloring_of_1 : FS := (fExpr (fCallF m_check_binary (fCons (fFz (fV 0)) fNil)))
def s_coloring_of_2 : FS := (fAsg (fFz (fFz (fCallF m_numbers_of (fCons (fFz (fV 0)) fNil)))) (gN (cK []) 1))
def s_coloring_of_3 : FS := (fRet (fFz (fIf (fTst (fBin (sEq true) (fV 1) (fLst fNil))) (fFz (fFz (fCallF (m_colored 16) (fCons (fFz (fV 0)) (fCons (fFz (fBin sIx (fV 1) (fC (.int 0)))) (fCons (fFz (fC (.str "black"))) fNil)))))) (fC .non))))
theorem e2_coloring_of : b_coloring_of = (fSeq s_coloring_of_1 (fSeq s_coloring_of_2 s_coloring_of_3)) := rfl
theorem y_coloring_of : m_coloring_of = fnG 1 2 (cK []) b_coloring_of := rfl
theorem e__law_size (r : FF) : b__law_size r = (fRet (fFz (fIf (fTst (fBin (sIs false) (fV 0) (fC .non))) (fC (.int 0)) (fFz (fBin sAdd (fBin sAdd (fC (.int 1)) (fFz (fCallF r (fCons (fFz (fBin sIx (fV 0) (fC (.int 0)))) fNil)))) (fFz (fCallF r (fCons (fFz (fBin sIx (fV 0) (fC (.int 1)))) fNil)))))))) := rfl
theorem y__law_size (k : Nat) : m__law_size (k + 1) = fnG 1 1 (cK []) (b__law_size (m__law_size k)) := rfl
theorem e__law_blacks (r : FF) : b__law_blacks r = (fSeq (fIfS (fTst (fBin (sIs false) (fV 0) (fC .non))) (fRet (fC (.int 0))) fPass) (fSeq (fAsg (fFz (fBin sAdd (fV 2) (fFz (fCallF (m__law_size 16) (fCons (fFz (fBin sIx (fV 0) (fC (.int 0)))) fNil))))) (gN (cK []) 4)) (fSeq (fIfS (fAnd (fTst (fBin (sEq false) (fBin sIx (fV 1) (fV 4)) (fC (.str "red")))) (fTst (fBin (sEq false) (fV 3) (fC (.str "red"))))) (fRet (fC .non)) fPass) (fSeq (fAsg (fFz (fFz (fCallF r (fCons (fFz (fBin sIx (fV 0) (fC (.int 0)))) (fCons (fFz (fV 1)) (fCons (fFz (fV 2)) (fCons (fFz (fBin sIx (fV 1) (fV 4))) fNil))))))) (gN (cK []) 5)) (fSeq (fAsg (fFz (fFz (fCallF r (fCons (fFz (fBin sIx (fV 0) (fC (.int 1)))) (fCons (fFz (fV 1)) (fCons (fFz (fBin sAdd (fV 4) (fC (.int 1)))) (fCons (fFz (fBin sIx (fV 1) (fV 4))) fNil))))))) (gN (cK []) 6)) (fSeq (fIfS (fOr (fTst (fBin (sIs false) (fV 5) (fC .non))) (fTst (fBin (sEq true) (fV 5) (fV 6)))) (fRet (fC .non)) fPass) (fRet (fFz (fBin sAdd (fV 5) (fCall (s1 gInt) (fCons (fBin (sEq false) (fBin sIx (fV 1) (fV 4)) (fC (.str "black"))) fNil))))))))))) := rfl
def s__law_blacks_1 : FS := (fIfS (fTst (fBin (sIs false) (fV 0) (fC .non))) (fRet (fC (.int 0))) fPass)
def s__law_blacks_2 : FS := (fAsg (fFz (fBin sAdd (fV 2) (fFz (fCallF (m__law_size 16) (fCons (fFz (fBin sIx (fV 0) (fC (.int 0)))) fNil))))) (gN (cK []) 4))
def s__law_blacks_3 : FS := (fIfS (fAnd (fTst (fBin (sEq false) (fBin sIx (fV 1) (fV 4)) (fC (.str "red")))) (fTst (fBin (sEq false) (fV 3) (fC (.str "red"))))) (fRet (fC .non)) fPass)
def s__law_blacks_4 (r : FF) : FS := (fAsg (fFz (fFz (fCallF r (fCons (fFz (fBin sIx (fV 0) (fC (.int 0)))) (fCons (fFz (fV 1)) (fCons (fFz (fV 2)) (fCons (fFz (fBin sIx (fV 1) (fV 4))) fNil))))))) (gN (cK []) 5))
def s__law_blacks_5 (r : FF) : FS := (fAsg (fFz (fFz (fCallF r (fCons (fFz (fBin sIx (fV 0) (fC (.int 1)))) (fCons (fFz (fV 1)) (fCons (fFz (fBin sAdd (fV 4) (fC (.int 1)))) (fCons (fFz (fBin sIx (fV 1) (fV 4))) fNil))))))) (gN (cK []) 6))
def s__law_blacks_6 : FS := (fIfS (fOr (fTst (fBin (sIs false) (fV 5) (fC .non))) (fTst (fBin (sEq true) (fV 5) (fV 6)))) (fRet (fC .non)) fPass)
def s__law_blacks_7 : FS := (fRet (fFz (fBin sAdd (fV 5) (fCall (s1 gInt) (fCons (fBin (sEq false) (fBin sIx (fV 1) (fV 4)) (fC (.str "black"))) fNil)))))
theorem e2__law_blacks (r : FF) : b__law_blacks r = (fSeq s__law_blacks_1 (fSeq s__law_blacks_2 (fSeq s__law_blacks_3 (fSeq (s__law_blacks_4 r) (fSeq (s__law_blacks_5 r) (fSeq s__law_blacks_6 s__law_blacks_7)))))) := rfl
theorem y__law_blacks (k : Nat) : m__law_blacks (k + 1) = fnG 4 7 (cK []) (b__law_blacks (m__law_blacks k)) := rfl
def g__law_shown_1 : FG := (gN (cN [3]) 3)
def t__law_shown_2 : FT := (fOr (fNot (fTru (fIsi "str" (fV 3)))) (fTst (fBin (sIn true) (fV 3) (fTup (fCons (fC (.str "red")) (fCons (fC (.str "black")) fNil))))))
def v__law_shown_3 : FE := (fFz (fV 3))
theorem e__law_shown : b__law_shown = (fSeq (fAsg (fFz (fFz (fCallF (m__law_size 16) (fCons (fFz (fV 0)) fNil)))) (gN (cK []) 2)) (fSeq (fIfS (fOr (fNot (fTru (fIsi "tuple" (fV 1)))) (fOr (fTst (fBin (sEq true) (fCall (s1 gLen) (fCons (fV 1) fNil)) (fV 2))) (fTst (fBin (sEq true) (fComp (fSeqI (fFz (fV 1))) g__law_shown_1 t__law_shown_2 v__law_shown_3 [3]) (fLst fNil))))) (fRet (fC (.bl false))) fPass) (fSeq (fIfS (fTst (fBin (sEq false) (fV 2) (fC (.int 0)))) (fRet (fC (.bl true))) fPass) (fRet (fAndV (fBin (sEq false) (fBin sIx (fV 1) (fFz (fCallF (m__law_size 16) (fCons (fFz (fBin sIx (fV 0) (fC (.int 0)))) fNil)))) (fC (.str "black"))) (fBin (sIs true) (fFz (fCallF (m__law_blacks 16) (fCons (fFz (fV 0)) (fCons (fFz (fV 1)) (fCons (fC (.int 0)) (fCons (fC (.str "black")) fNil)))))) (fC .non))))))) := rfl
def s__law_shown_1 : FS := (fAsg (fFz (fFz (fCallF (m__law_size 16) (fCons (fFz (fV 0)) fNil)))) (gN (cK []) 2))
def s__law_shown_2 : FS := (fIfS (fOr (fNot (fTru (fIsi "tuple" (fV 1)))) (fOr (fTst (fBin (sEq true) (fCall (s1 gLen) (fCons (fV 1) fNil)) (fV 2))) (fTst (fBin (sEq true) (fComp (fSeqI (fFz (fV 1))) g__law_shown_1 t__law_shown_2 v__law_shown_3 [3]) (fLst fNil))))) (fRet (fC (.bl false))) fPass)
def s__law_shown_3 : FS := (fIfS (fTst (fBin (sEq false) (fV 2) (fC (.int 0)))) (fRet (fC (.bl true))) fPass)
def s__law_shown_4 : FS := (fRet (fAndV (fBin (sEq false) (fBin sIx (fV 1) (fFz (fCallF (m__law_size 16) (fCons (fFz (fBin sIx (fV 0) (fC (.int 0)))) fNil)))) (fC (.str "black"))) (fBin (sIs true) (fFz (fCallF (m__law_blacks 16) (fCons (fFz (fV 0)) (fCons (fFz (fV 1)) (fCons (fC (.int 0)) (fCons (fC (.str "black")) fNil)))))) (fC .non))))
theorem e2__law_shown : b__law_shown = (fSeq s__law_shown_1 (fSeq s__law_shown_2 (fSeq s__law_shown_3 s__law_shown_4))) := rfl
theorem y__law_shown : m__law_shown = fnG 2 4 (cK []) b__law_shown := rfl
theorem e_nodes_in (r : FF) : b_nodes_in r = (fRet (fFz (fIf (fTst (fBin (sIs false) (fV 0) (fC .non))) (fC (.int 0)) (fFz (fBin sAdd (fBin sAdd (fC (.int 1)) (fFz (fCallF r (fCons (fFz (fBin sIx (fV 0) (fC (.int 0)))) fNil)))) (fFz (fCallF r (fCons (fFz (fBin sIx (fV 0) (fC (.int 1)))) fNil)))))))) := rfl
theorem y_nodes_in (k : Nat) : m_nodes_in (k + 1) = fnG 1 1 (cK []) (b_nodes_in (m_nodes_in k)) := rfl
def g_has_red_pair_1 : FG := (gTupl 3 (gsCons (gN (cK []) 3) (gsCons (gN (cK []) 4) (gsCons (gN (cK []) 5) gsNil))))
def l_has_red_pair_2 : FS := (fSeq (fIfS (fTst (fBin (sIs true) (fV 4) (fC .non))) (fExpr (fMt sApp (fV 2) (fCons (fTup (fCons (fFz (fV 3)) (fCons (fFz (fBin sSub (fBin sSub (fV 3) (fC (.int 1))) (fFz (fCallF (m_nodes_in 16) (fCons (fFz (fBin sIx (fV 4) (fC (.int 1)))) fNil))))) fNil))) fNil))) fPass) (fIfS (fTst (fBin (sIs true) (fV 5) (fC .non))) (fExpr (fMt sApp (fV 2) (fCons (fTup (fCons (fFz (fV 3)) (fCons (fFz (fBin sAdd (fBin sAdd (fV 3) (fC (.int 1))) (fFz (fCallF (m_nodes_in 16) (fCons (fFz (fBin sIx (fV 5) (fC (.int 0)))) fNil))))) fNil))) fNil))) fPass))
def q_l_has_red_pair_2_1 : FS := (fIfS (fTst (fBin (sIs true) (fV 4) (fC .non))) (fExpr (fMt sApp (fV 2) (fCons (fTup (fCons (fFz (fV 3)) (fCons (fFz (fBin sSub (fBin sSub (fV 3) (fC (.int 1))) (fFz (fCallF (m_nodes_in 16) (fCons (fFz (fBin sIx (fV 4) (fC (.int 1)))) fNil))))) fNil))) fNil))) fPass)
def q_l_has_red_pair_2_2 : FS := (fIfS (fTst (fBin (sIs true) (fV 5) (fC .non))) (fExpr (fMt sApp (fV 2) (fCons (fTup (fCons (fFz (fV 3)) (fCons (fFz (fBin sAdd (fBin sAdd (fV 3) (fC (.int 1))) (fFz (fCallF (m_nodes_in 16) (fCons (fFz (fBin sIx (fV 5) (fC (.int 0)))) fNil))))) fNil))) fNil))) fPass)
theorem e_l_has_red_pair_2 : l_has_red_pair_2 = (fSeq q_l_has_red_pair_2_1 q_l_has_red_pair_2_2) := rfl
def g_has_red_pair_3 : FG := (gTupl 2 (gsCons (gN (cN [3, 6]) 3) (gsCons (gN (cN [3, 6]) 6) gsNil)))
def v_has_red_pair_4 : FE := (fAndV (fBin (sEq false) (fBin sIx (fV 1) (fV 3)) (fC (.str "red"))) (fBin (sEq false) (fBin sIx (fV 1) (fV 6)) (fC (.str "red"))))
theorem e_has_red_pair : b_has_red_pair = (fSeq (fAsg (fLst fNil) (gN (cK []) 2)) (fSeq (fFor (fSeqI (fFz (fFz (fCallF (m_stretches_of 16) (fCons (fFz (fV 0)) (fCons (fC (.int 0)) fNil)))))) g_has_red_pair_1 l_has_red_pair_2) (fRet (fFz (fCall (s1 gAny) (fCons (fComp (fSeqI (fFz (fV 2))) g_has_red_pair_3 fYes v_has_red_pair_4 [3, 6]) fNil)))))) := rfl
def s_has_red_pair_1 : FS := (fAsg (fLst fNil) (gN (cK []) 2))
def s_has_red_pair_2 : FS := (fFor (fSeqI (fFz (fFz (fCallF (m_stretches_of 16) (fCons (fFz (fV 0)) (fCons (fC (.int 0)) fNil)))))) g_has_red_pair_1 l_has_red_pair_2)
def s_has_red_pair_3 : FS := (fRet (fFz (fCall (s1 gAny) (fCons (fComp (fSeqI (fFz (fV 2))) g_has_red_pair_3 fYes v_has_red_pair_4 [3, 6]) fNil))))
theorem e2_has_red_pair : b_has_red_pair = (fSeq s_has_red_pair_1 (fSeq s_has_red_pair_2 s_has_red_pair_3)) := rfl
theorem y_has_red_pair : m_has_red_pair = fnG 2 7 (cK []) b_has_red_pair := rfl
theorem e_count_down (r : FF) : b_count_down r = (fSeq (fIfS (fTst (fBin (sIs false) (fV 0) (fC .non))) (fRet (fC (.int 0))) fPass) (fSeq (fAsg (fFz (fBin sSub (fBin sSub (fCall (s1 gLen) (fCons (fV 1) fNil)) (fC (.int 1))) (fFz (fCallF (m_nodes_in 16) (fCons (fFz (fBin sIx (fV 0) (fC (.int 1)))) fNil))))) (gN (cK []) 2)) (fSeq (gPar (cK []) 3 4 (fCons (fFz (fFz (fCallF r (fCons (fFz (fBin sIx (fV 0) (fC (.int 0)))) (fCons (fFz (fSl (fV 1) fONone (fOSome (fV 2)))) fNil))))) (fCons (fFz (fFz (fCallF r (fCons (fFz (fBin sIx (fV 0) (fC (.int 1)))) (fCons (fFz (fSl (fV 1) (fOSome (fBin sAdd (fV 2) (fC (.int 1)))) fONone)) fNil))))) fNil))) (fRet (fFz (fIf (fOr (fTst (fBin (sIs false) (fV 3) (fC .non))) (fTst (fBin (sEq true) (fV 3) (fV 4)))) (fC .non) (fFz (fBin sAdd (fV 3) (fCall (s1 gInt) (fCons (fBin (sEq false) (fBin sIx (fV 1) (fV 2)) (fC (.str "black"))) fNil)))))))))) := rfl
def s_count_down_1 : FS := (fIfS (fTst (fBin (sIs false) (fV 0) (fC .non))) (fRet (fC (.int 0))) fPass)
def s_count_down_2 : FS := (fAsg (fFz (fBin sSub (fBin sSub (fCall (s1 gLen) (fCons (fV 1) fNil)) (fC (.int 1))) (fFz (fCallF (m_nodes_in 16) (fCons (fFz (fBin sIx (fV 0) (fC (.int 1)))) fNil))))) (gN (cK []) 2))
def s_count_down_3 (r : FF) : FS := (gPar (cK []) 3 4 (fCons (fFz (fFz (fCallF r (fCons (fFz (fBin sIx (fV 0) (fC (.int 0)))) (fCons (fFz (fSl (fV 1) fONone (fOSome (fV 2)))) fNil))))) (fCons (fFz (fFz (fCallF r (fCons (fFz (fBin sIx (fV 0) (fC (.int 1)))) (fCons (fFz (fSl (fV 1) (fOSome (fBin sAdd (fV 2) (fC (.int 1)))) fONone)) fNil))))) fNil)))
def s_count_down_4 : FS := (fRet (fFz (fIf (fOr (fTst (fBin (sIs false) (fV 3) (fC .non))) (fTst (fBin (sEq true) (fV 3) (fV 4)))) (fC .non) (fFz (fBin sAdd (fV 3) (fCall (s1 gInt) (fCons (fBin (sEq false) (fBin sIx (fV 1) (fV 2)) (fC (.str "black"))) fNil)))))))
theorem e2_count_down (r : FF) : b_count_down r = (fSeq s_count_down_1 (fSeq s_count_down_2 (fSeq (s_count_down_3 r) s_count_down_4))) := rfl
theorem y_count_down (k : Nat) : m_count_down (k + 1) = fnG 2 5 (cK []) (b_count_down (m_count_down k)) := rfl
def g_shows_coloring_1 : FG := (gN (cN [2]) 2)
def v_shows_coloring_2 : FE := (fAndV (fIsi "str" (fV 2)) (fBin (sIn false) (fV 2) (fTup (fCons (fFz (fC (.str "red"))) (fCons (fFz (fC (.str "black"))) fNil)))))
theorem e_shows_coloring : b_shows_coloring = (fSeq (fExpr (fCallF m_check_binary (fCons (fFz (fV 0)) fNil))) (fSeq (fIfS (fOr (fNot (fTru (fIsi "tuple" (fV 1)))) (fTst (fBin (sEq true) (fCall (s1 gLen) (fCons (fV 1) fNil)) (fFz (fCallF (m_nodes_in 16) (fCons (fFz (fV 0)) fNil)))))) (fRet (fC (.bl false))) fPass) (fSeq (fIfS (fNot (fTru (fCall (s1 gAll) (fCons (fComp (fSeqI (fFz (fV 1))) g_shows_coloring_1 fYes v_shows_coloring_2 [2]) fNil)))) (fRet (fC (.bl false))) fPass) (fSeq (fIfS (fTst (fBin (sIs false) (fV 0) (fC .non))) (fRet (fC (.bl true))) fPass) (fSeq (fIfS (fOr (fTst (fBin (sEq true) (fBin sIx (fV 1) (fFz (fCallF (m_nodes_in 16) (fCons (fFz (fBin sIx (fV 0) (fC (.int 0)))) fNil)))) (fC (.str "black")))) (fTru (fFz (fCallF m_has_red_pair (fCons (fFz (fV 0)) (fCons (fFz (fV 1)) fNil)))))) (fRet (fC (.bl false))) fPass) (fRet (fBin (sIs true) (fFz (fCallF (m_count_down 16) (fCons (fFz (fV 0)) (fCons (fFz (fV 1)) fNil)))) (fC .non)))))))) := rfl
def s_shows_coloring_1 : FS := (fExpr (fCallF m_check_binary (fCons (fFz (fV 0)) fNil)))
def s_shows_coloring_2 : FS := (fIfS (fOr (fNot (fTru (fIsi "tuple" (fV 1)))) (fTst (fBin (sEq true) (fCall (s1 gLen) (fCons (fV 1) fNil)) (fFz (fCallF (m_nodes_in 16) (fCons (fFz (fV 0)) fNil)))))) (fRet (fC (.bl false))) fPass)
def s_shows_coloring_3 : FS := (fIfS (fNot (fTru (fCall (s1 gAll) (fCons (fComp (fSeqI (fFz (fV 1))) g_shows_coloring_1 fYes v_shows_coloring_2 [2]) fNil)))) (fRet (fC (.bl false))) fPass)
def s_shows_coloring_4 : FS := (fIfS (fTst (fBin (sIs false) (fV 0) (fC .non))) (fRet (fC (.bl true))) fPass)
def s_shows_coloring_5 : FS := (fIfS (fOr (fTst (fBin (sEq true) (fBin sIx (fV 1) (fFz (fCallF (m_nodes_in 16) (fCons (fFz (fBin sIx (fV 0) (fC (.int 0)))) fNil)))) (fC (.str "black")))) (fTru (fFz (fCallF m_has_red_pair (fCons (fFz (fV 0)) (fCons (fFz (fV 1)) fNil)))))) (fRet (fC (.bl false))) fPass)
def s_shows_coloring_6 : FS := (fRet (fBin (sIs true) (fFz (fCallF (m_count_down 16) (fCons (fFz (fV 0)) (fCons (fFz (fV 1)) fNil)))) (fC .non)))
theorem e2_shows_coloring : b_shows_coloring = (fSeq s_shows_coloring_1 (fSeq s_shows_coloring_2 (fSeq s_shows_coloring_3 (fSeq s_shows_coloring_4 (fSeq s_shows_coloring_5 s_shows_coloring_6))))) := rfl
theorem y_shows_coloring : m_shows_coloring = fnG 2 3 (cK []) b_shows_coloring := rfl
def g_uneven_node_1 : FG := (gTupl 3 (gsCons (gN (cN [2, 3, 4]) 2) (gsCons (gN (cN [2, 3, 4]) 3) (gsCons (gN (cN [2, 3, 4]) 4) gsNil))))
def t_uneven_node_2 : FT := (fTst (fBin sGt (fCall (s1 gAbs) (fCons (fBin sSub (fFz (fCallF (m_height_in 16) (fCons (fFz (fV 3)) fNil))) (fFz (fCallF (m_height_in 16) (fCons (fFz (fV 4)) fNil)))) fNil)) (fC (.int 1))))
def v_uneven_node_3 : FE := (fFz (fV 2))
theorem e_uneven_node : b_uneven_node = (fSeq (fExpr (fCallF m_check_binary (fCons (fFz (fV 0)) fNil))) (fSeq (fAsg (fFz (fComp (fSeqI (fFz (fFz (fCallF (m_stretches_of 16) (fCons (fFz (fV 0)) (fCons (fC (.int 0)) fNil)))))) g_uneven_node_1 t_uneven_node_2 v_uneven_node_3 [2, 3, 4])) (gN (cK []) 1)) (fRet (fFz (fIf (fTst (fBin (sEq true) (fV 1) (fLst fNil))) (fFz (fBin sIx (fV 1) (fC (.int 0)))) (fC .non)))))) := rfl
def s_uneven_node_1 : FS := (fExpr (fCallF m_check_binary (fCons (fFz (fV 0)) fNil)))
def s_uneven_node_2 : FS := (fAsg (fFz (fComp (fSeqI (fFz (fFz (fCallF (m_stretches_of 16) (fCons (fFz (fV 0)) (fCons (fC (.int 0)) fNil)))))) g_uneven_node_1 t_uneven_node_2 v_uneven_node_3 [2, 3, 4])) (gN (cK []) 1))
def s_uneven_node_3 : FS := (fRet (fFz (fIf (fTst (fBin (sEq true) (fV 1) (fLst fNil))) (fFz (fBin sIx (fV 1) (fC (.int 0)))) (fC .non))))
theorem e2_uneven_node : b_uneven_node = (fSeq s_uneven_node_1 (fSeq s_uneven_node_2 s_uneven_node_3)) := rfl
theorem y_uneven_node : m_uneven_node = fnG 1 5 (cK []) b_uneven_node := rfl
def g__law_uneven_1 : FG := (gN (cN [1]) 1)
def t__law_uneven_2 : FT := (fTst (fBin sGt (fCall (s1 gAbs) (fCons (fBin sSub (fBin sIx (fFz (fCallF (m__law_ways 16) (fCons (fFz (fBin sIx (fV 1) (fC (.int 0)))) fNil))) (fC (.int 0))) (fBin sIx (fFz (fCallF (m__law_ways 16) (fCons (fFz (fBin sIx (fV 1) (fC (.int 1)))) fNil))) (fC (.int 0)))) fNil)) (fC (.int 1))))
def v__law_uneven_3 : FE := (fFz (fV 1))
theorem e__law_uneven : b__law_uneven = (fRet (fBin (sEq true) (fComp (fSeqI (fFz (fFz (fCallF (m__law_nodes 16) (fCons (fFz (fV 0)) fNil))))) g__law_uneven_1 t__law_uneven_2 v__law_uneven_3 [1]) (fLst fNil))) := rfl
theorem y__law_uneven : m__law_uneven = fnG 1 2 (cK []) b__law_uneven := rfl
def g__law_tree_right_1 : FG := (gN (cN [4]) 4)
def v__law_tree_right_2 : FE := (fCallF (m__law_ways 16) (fCons (fFz (fV 4)) fNil))
def g__law_tree_right_3 : FG := (gN (cK []) 5)
def l__law_tree_right_4 : FS := (fIfS (fAnd (fTst (fBin (sIs false) (fV 3) (fC .non))) (fTst (fBin sGt (fBin sIx (fBin sIx (fV 2) (fV 5)) (fC (.int 0))) (fBin sMul (fC (.int 2)) (fBin sIx (fBin sIx (fV 2) (fV 5)) (fC (.int 1))))))) (fAsg (fFz (fV 5)) (gN (cK []) 3)) fPass)
theorem e__law_tree_right : b__law_tree_right = (fSeq (gPar (cK []) 2 3 (fCons (fFz (fComp (fSeqI (fFz (fFz (fCallF (m__law_nodes 16) (fCons (fFz (fV 0)) fNil))))) g__law_tree_right_1 fYes v__law_tree_right_2 [4])) (fCons (fC .non) fNil))) (fSeq (fFor (fRg1 (fCons (fFz (fCall (s1 gLen) (fCons (fV 2) fNil))) fNil)) g__law_tree_right_3 l__law_tree_right_4) (fSeq (fAsg (fFz (fFz (fCallF (m__law_ways 16) (fCons (fFz (fV 0)) fNil)))) (gTupl 2 (gsCons (gN (cK []) 6) (gsCons (gN (cK []) 7) gsNil)))) (fSeq (fAsg (fFz (fIf (fTst (fBin (sIs false) (fV 3) (fC .non))) (fFz (fTRg (fR2 (fFz (fBin sDiv (fBin sAdd (fV 6) (fC (.int 1))) (fC (.int 2)))) (fFz (fBin sAdd (fV 7) (fC (.int 1))))))) (fFz (fTup fNil)))) (gN (cK []) 8)) (fSeq (fAsg (fFz (fIf (fTru (fV 1)) (fFz (fLst (fCons (fFz (fFz (fCallK 0 1 [0] m_color_break fNil (fCons (fFz (fV 0)) fNil)))) (fCons (fFz (fFz (fCallF m_black_heights (fCons (fFz (fV 0)) fNil)))) fNil)))) (fFz (fLst (fCons (fFz (fFz (fCallF m_color_break (fCons (fFz (fV 0)) fNil)))) (fCons (fFz (fFz (fCallK 0 1 [0] m_black_heights fNil (fCons (fFz (fV 0)) fNil)))) fNil)))))) (gN (cK []) 9)) (fSeq (fIfS (fOr (fNot (fTru (fFz (fCallF (m__law_same 16) (fCons (fFz (fV 9)) (fCons (fFz (fLst (fCons (fFz (fV 3)) (fCons (fFz (fV 8)) fNil)))) fNil)))))) (fNot (fTru (fFz (fCallF (m__law_same 16) (fCons (fFz (fFz (fCallF m_binary_height (fCons (fFz (fV 0)) fNil)))) (fCons (fFz (fV 6)) fNil))))))) (fRet (fC (.bl false))) fPass) (fSeq (fAsg (fFz (fIf (fTru (fV 1)) (fFz (fFz (fCallK 0 1 [0] m_coloring_of fNil (fCons (fFz (fV 0)) fNil)))) (fFz (fFz (fCallF m_coloring_of (fCons (fFz (fV 0)) fNil)))))) (gN (cK []) 10)) (fSeq (fIfS (fOr (fNot (fTru (fFz (fCallF (m__law_same 16) (fCons (fFz (fFz (fCallF m_coloring_of (fCons (fFz (fV 0)) fNil)))) (fCons (fFz (fV 10)) fNil)))))) (fTst (fBin (sEq true) (fBin (sIs false) (fV 10) (fC .non)) (fBin (sIs true) (fV 3) (fC .non))))) (fRet (fC (.bl false))) fPass) (fSeq (fIfS (fAnd (fTst (fBin (sIs true) (fV 10) (fC .non))) (fOr (fNot (fTru (fFz (fCallF m__law_shown (fCons (fFz (fV 0)) (fCons (fFz (fV 10)) fNil)))))) (fNot (fTru (fFz (fCallF (m__law_same 16) (fCons (fFz (fFz (fCallF m_shows_coloring (fCons (fFz (fV 0)) (fCons (fFz (fV 10)) fNil))))) (fCons (fC (.bl true)) fNil)))))))) (fRet (fC (.bl false))) fPass) (fSeq (fAsg (fFz (fIf (fTru (fV 1)) (fFz (fFz (fCallK 0 1 [0] m_uneven_node fNil (fCons (fFz (fV 0)) fNil)))) (fFz (fFz (fCallF m_uneven_node (fCons (fFz (fV 0)) fNil)))))) (gN (cK []) 11)) (fRet (fAndV (fFz (fCallF (m__law_same 16) (fCons (fBin (sIs false) (fV 11) (fC .non)) (fCons (fNotV (fFz (fCallF m__law_uneven (fCons (fFz (fV 0)) fNil)))) fNil)))) (fOrV (fBin (sIs true) (fV 11) (fC .non)) (fBin (sIs false) (fV 3) (fC .non))))))))))))))) := rfl
def s__law_tree_right_1 : FS := (gPar (cK []) 2 3 (fCons (fFz (fComp (fSeqI (fFz (fFz (fCallF (m__law_nodes 16) (fCons (fFz (fV 0)) fNil))))) g__law_tree_right_1 fYes v__law_tree_right_2 [4])) (fCons (fC .non) fNil)))
def s__law_tree_right_2 : FS := (fFor (fRg1 (fCons (fFz (fCall (s1 gLen) (fCons (fV 2) fNil))) fNil)) g__law_tree_right_3 l__law_tree_right_4)
def s__law_tree_right_3 : FS := (fAsg (fFz (fFz (fCallF (m__law_ways 16) (fCons (fFz (fV 0)) fNil)))) (gTupl 2 (gsCons (gN (cK []) 6) (gsCons (gN (cK []) 7) gsNil))))
def s__law_tree_right_4 : FS := (fAsg (fFz (fIf (fTst (fBin (sIs false) (fV 3) (fC .non))) (fFz (fTRg (fR2 (fFz (fBin sDiv (fBin sAdd (fV 6) (fC (.int 1))) (fC (.int 2)))) (fFz (fBin sAdd (fV 7) (fC (.int 1))))))) (fFz (fTup fNil)))) (gN (cK []) 8))
def s__law_tree_right_5 : FS := (fAsg (fFz (fIf (fTru (fV 1)) (fFz (fLst (fCons (fFz (fFz (fCallK 0 1 [0] m_color_break fNil (fCons (fFz (fV 0)) fNil)))) (fCons (fFz (fFz (fCallF m_black_heights (fCons (fFz (fV 0)) fNil)))) fNil)))) (fFz (fLst (fCons (fFz (fFz (fCallF m_color_break (fCons (fFz (fV 0)) fNil)))) (fCons (fFz (fFz (fCallK 0 1 [0] m_black_heights fNil (fCons (fFz (fV 0)) fNil)))) fNil)))))) (gN (cK []) 9))
def s__law_tree_right_6 : FS := (fIfS (fOr (fNot (fTru (fFz (fCallF (m__law_same 16) (fCons (fFz (fV 9)) (fCons (fFz (fLst (fCons (fFz (fV 3)) (fCons (fFz (fV 8)) fNil)))) fNil)))))) (fNot (fTru (fFz (fCallF (m__law_same 16) (fCons (fFz (fFz (fCallF m_binary_height (fCons (fFz (fV 0)) fNil)))) (fCons (fFz (fV 6)) fNil))))))) (fRet (fC (.bl false))) fPass)
def s__law_tree_right_7 : FS := (fAsg (fFz (fIf (fTru (fV 1)) (fFz (fFz (fCallK 0 1 [0] m_coloring_of fNil (fCons (fFz (fV 0)) fNil)))) (fFz (fFz (fCallF m_coloring_of (fCons (fFz (fV 0)) fNil)))))) (gN (cK []) 10))
def s__law_tree_right_8 : FS := (fIfS (fOr (fNot (fTru (fFz (fCallF (m__law_same 16) (fCons (fFz (fFz (fCallF m_coloring_of (fCons (fFz (fV 0)) fNil)))) (fCons (fFz (fV 10)) fNil)))))) (fTst (fBin (sEq true) (fBin (sIs false) (fV 10) (fC .non)) (fBin (sIs true) (fV 3) (fC .non))))) (fRet (fC (.bl false))) fPass)
def s__law_tree_right_9 : FS := (fIfS (fAnd (fTst (fBin (sIs true) (fV 10) (fC .non))) (fOr (fNot (fTru (fFz (fCallF m__law_shown (fCons (fFz (fV 0)) (fCons (fFz (fV 10)) fNil)))))) (fNot (fTru (fFz (fCallF (m__law_same 16) (fCons (fFz (fFz (fCallF m_shows_coloring (fCons (fFz (fV 0)) (fCons (fFz (fV 10)) fNil))))) (fCons (fC (.bl true)) fNil)))))))) (fRet (fC (.bl false))) fPass)
def s__law_tree_right_10 : FS := (fAsg (fFz (fIf (fTru (fV 1)) (fFz (fFz (fCallK 0 1 [0] m_uneven_node fNil (fCons (fFz (fV 0)) fNil)))) (fFz (fFz (fCallF m_uneven_node (fCons (fFz (fV 0)) fNil)))))) (gN (cK []) 11))
def s__law_tree_right_11 : FS := (fRet (fAndV (fFz (fCallF (m__law_same 16) (fCons (fBin (sIs false) (fV 11) (fC .non)) (fCons (fNotV (fFz (fCallF m__law_uneven (fCons (fFz (fV 0)) fNil)))) fNil)))) (fOrV (fBin (sIs true) (fV 11) (fC .non)) (fBin (sIs false) (fV 3) (fC .non)))))
theorem e2__law_tree_right : b__law_tree_right = (fSeq s__law_tree_right_1 (fSeq s__law_tree_right_2 (fSeq s__law_tree_right_3 (fSeq s__law_tree_right_4 (fSeq s__law_tree_right_5 (fSeq s__law_tree_right_6 (fSeq s__law_tree_right_7 (fSeq s__law_tree_right_8 (fSeq s__law_tree_right_9 (fSeq s__law_tree_right_10 s__law_tree_right_11)))))))))) := rfl
theorem y__law_tree_right : m__law_tree_right = fnG 2 12 (cK []) b__law_tree_right := rfl
def g__law_colors_right_1 : FG := (gN (cN [6]) 6)
def v__law_colors_right_2 : FE := (fFz (fBin sIx (fLst (fCons (fC (.str "black")) (fCons (fC (.str "red")) fNil))) (fFz (fCallF m__law_take (fCons (fV 0) (fCons (fC (.int 2)) fNil))))))
def g__law_colors_right_3 : FG := (gTupl 2 (gsCons (gN (cN [10, 9]) 10) (gsCons (gN (cN [10, 9]) 9) gsNil)))
def v__law_colors_right_4 : FE := (fFz (fIf (fTst (fBin (sIn true) (fV 10) (fTup (fCons (fFz (fV 6)) (fCons (fFz (fV 8)) fNil))))) (fFz (fV 9)) (fFz (fBin sIx (fLst (fCons (fC (.str "red")) (fCons (fC (.str "black")) fNil))) (fCall (s1 gInt) (fCons (fBin (sEq false) (fV 9) (fC (.str "red"))) fNil))))))
def g__law_colors_right_5 : FG := (gN (cK [0]) 7)
def l__law_colors_right_6 : FS := (fSeq (fUnp 2 (fCons (fFz (fFz (fCallF m__law_take (fCons (fV 0) (fCons (fFz (fCall (s2 gMax2) (fCons (fC (.int 1)) (fCons (fV 4) fNil)))) fNil))))) (fCons (fFz (fFz (fCallF m__law_take (fCons (fV 0) (fCons (fFz (fCall (s2 gMax2) (fCons (fC (.int 1)) (fCons (fV 4) fNil)))) fNil))))) fNil)) (gmCons (gN (cK [0]) 6) (gmCons (gN (cK [0]) 8) gmNil))) (fExpr (fMt sApp (fV 5) (fCons (fCall (s1 gTuple) (fCons (fComp (fEnumA (fCons (fFz (fV 3)) fNil)) g__law_colors_right_3 fYes v__law_colors_right_4 [10, 9]) fNil)) fNil))))
def q_l__law_colors_right_6_1 : FS := (fUnp 2 (fCons (fFz (fFz (fCallF m__law_take (fCons (fV 0) (fCons (fFz (fCall (s2 gMax2) (fCons (fC (.int 1)) (fCons (fV 4) fNil)))) fNil))))) (fCons (fFz (fFz (fCallF m__law_take (fCons (fV 0) (fCons (fFz (fCall (s2 gMax2) (fCons (fC (.int 1)) (fCons (fV 4) fNil)))) fNil))))) fNil)) (gmCons (gN (cK [0]) 6) (gmCons (gN (cK [0]) 8) gmNil)))
def q_l__law_colors_right_6_2 : FS := (fExpr (fMt sApp (fV 5) (fCons (fCall (s1 gTuple) (fCons (fComp (fEnumA (fCons (fFz (fV 3)) fNil)) g__law_colors_right_3 fYes v__law_colors_right_4 [10, 9]) fNil)) fNil)))
theorem e_l__law_colors_right_6 : l__law_colors_right_6 = (fSeq q_l__law_colors_right_6_1 q_l__law_colors_right_6_2) := rfl
def g__law_colors_right_7 : FG := (gN (cN [9]) 9)
def v__law_colors_right_8 : FE := (fBin (sEq false) (fV 9) (fC (.str "red")))
def g__law_colors_right_9 : FG := (gN (cK [0]) 11)
def l__law_colors_right_10 : FS := (fSeq (fAsg (fFz (fIf (fTru (fV 2)) (fFz (fFz (fCallK 0 2 [1, 0] m_shows_coloring fNil (fCons (fFz (fV 11)) (fCons (fFz (fV 1)) fNil))))) (fFz (fFz (fCallF m_shows_coloring (fCons (fFz (fV 1)) (fCons (fFz (fV 11)) fNil))))))) (gN (cK [0]) 12)) (fSeq (fIfS (fNot (fTru (fFz (fCallF (m__law_same 16) (fCons (fFz (fV 12)) (fCons (fFz (fFz (fCallF m__law_shown (fCons (fFz (fV 1)) (fCons (fFz (fV 11)) fNil))))) fNil)))))) (fRet (fC (.bl false))) fPass) (fAsg (fNotV (fV 2)) (gN (cK [0]) 2))))
def q_l__law_colors_right_10_1 : FS := (fAsg (fFz (fIf (fTru (fV 2)) (fFz (fFz (fCallK 0 2 [1, 0] m_shows_coloring fNil (fCons (fFz (fV 11)) (fCons (fFz (fV 1)) fNil))))) (fFz (fFz (fCallF m_shows_coloring (fCons (fFz (fV 1)) (fCons (fFz (fV 11)) fNil))))))) (gN (cK [0]) 12))
def q_l__law_colors_right_10_2 : FS := (fIfS (fNot (fTru (fFz (fCallF (m__law_same 16) (fCons (fFz (fV 12)) (fCons (fFz (fFz (fCallF m__law_shown (fCons (fFz (fV 1)) (fCons (fFz (fV 11)) fNil))))) fNil)))))) (fRet (fC (.bl false))) fPass)
def q_l__law_colors_right_10_3 : FS := (fAsg (fNotV (fV 2)) (gN (cK [0]) 2))
theorem e_l__law_colors_right_10 : l__law_colors_right_10 = (fSeq q_l__law_colors_right_10_1 (fSeq q_l__law_colors_right_10_2 q_l__law_colors_right_10_3)) := rfl
theorem e__law_colors_right : b__law_colors_right = (fSeq (gPar (cK [0]) 3 4 (fCons (fFz (fFz (fCallF m_coloring_of (fCons (fFz (fV 1)) fNil)))) (fCons (fFz (fFz (fCallF (m__law_size 16) (fCons (fFz (fV 1)) fNil)))) fNil))) (fSeq (fAsg (fLst (fCons (fCall (s1 gTuple) (fCons (fBin sMul (fLst (fCons (fC (.str "black")) fNil)) (fV 4)) fNil)) (fCons (fCall (s1 gTuple) (fCons (fComp (fRg1 (fCons (fFz (fV 4)) fNil)) g__law_colors_right_1 fYes v__law_colors_right_2 [6]) fNil)) (fCons (fC .non) (fCons (fFz (fIf (fTst (fBin (sIs true) (fV 3) (fC .non))) (fFz (fCall (s1 gList) (fCons (fV 3) fNil))) (fFz (fLst fNil)))) (fCons (fBin sMul (fTup (fCons (fC (.str "black")) fNil)) (fBin sAdd (fV 4) (fC (.int 1)))) fNil)))))) (gN (cK [0]) 5)) (fSeq (fIfS (fTst (fBin (sIs true) (fV 3) (fC .non))) (fSeq (fExpr (fMt sApp (fV 5) (fCons (fFz (fV 3)) fNil))) (fSeq (fFor (fRg1 (fCons (fC (.int 3)) fNil)) g__law_colors_right_5 l__law_colors_right_6) (fExpr (fMt sExt (fV 5) (fCons (fFz (fLst (fCons (fFz (fBin sAdd (fSl (fV 3) fONone (fOSome (fNeg (fC (.int 1))))) (fTup (fCons (fC (.str "green")) fNil)))) (fCons (fFz (fCall (s1 gTuple) (fCons (fComp (fSeqI (fFz (fV 3))) g__law_colors_right_7 fYes v__law_colors_right_8 [9]) fNil))) fNil)))) fNil))))) fPass) (fSeq (fFor (fSeqI (fFz (fV 5))) g__law_colors_right_9 l__law_colors_right_10) (fRet (fC (.bl true))))))) := rfl
def s__law_colors_right_1 : FS := (gPar (cK [0]) 3 4 (fCons (fFz (fFz (fCallF m_coloring_of (fCons (fFz (fV 1)) fNil)))) (fCons (fFz (fFz (fCallF (m__law_size 16) (fCons (fFz (fV 1)) fNil)))) fNil)))
def s__law_colors_right_2 : FS := (fAsg (fLst (fCons (fCall (s1 gTuple) (fCons (fBin sMul (fLst (fCons (fC (.str "black")) fNil)) (fV 4)) fNil)) (fCons (fCall (s1 gTuple) (fCons (fComp (fRg1 (fCons (fFz (fV 4)) fNil)) g__law_colors_right_1 fYes v__law_colors_right_2 [6]) fNil)) (fCons (fC .non) (fCons (fFz (fIf (fTst (fBin (sIs true) (fV 3) (fC .non))) (fFz (fCall (s1 gList) (fCons (fV 3) fNil))) (fFz (fLst fNil)))) (fCons (fBin sMul (fTup (fCons (fC (.str "black")) fNil)) (fBin sAdd (fV 4) (fC (.int 1)))) fNil)))))) (gN (cK [0]) 5))
def s__law_colors_right_3 : FS := (fIfS (fTst (fBin (sIs true) (fV 3) (fC .non))) (fSeq (fExpr (fMt sApp (fV 5) (fCons (fFz (fV 3)) fNil))) (fSeq (fFor (fRg1 (fCons (fC (.int 3)) fNil)) g__law_colors_right_5 l__law_colors_right_6) (fExpr (fMt sExt (fV 5) (fCons (fFz (fLst (fCons (fFz (fBin sAdd (fSl (fV 3) fONone (fOSome (fNeg (fC (.int 1))))) (fTup (fCons (fC (.str "green")) fNil)))) (fCons (fFz (fCall (s1 gTuple) (fCons (fComp (fSeqI (fFz (fV 3))) g__law_colors_right_7 fYes v__law_colors_right_8 [9]) fNil))) fNil)))) fNil))))) fPass)
def s__law_colors_right_4 : FS := (fFor (fSeqI (fFz (fV 5))) g__law_colors_right_9 l__law_colors_right_10)
def s__law_colors_right_5 : FS := (fRet (fC (.bl true)))
theorem e2__law_colors_right : b__law_colors_right = (fSeq s__law_colors_right_1 (fSeq s__law_colors_right_2 (fSeq s__law_colors_right_3 (fSeq s__law_colors_right_4 s__law_colors_right_5)))) := rfl
theorem y__law_colors_right : m__law_colors_right = fnG 3 13 (cK [0]) b__law_colors_right := rfl
def g_law_1 : FG := (gN (cK []) 4)
def l_law_2 : FS := (fSeq (fIfS (fNot (fTru (fFz (fCallF m__law_tree_right (fCons (fFz (fV 4)) (fCons (fFz (fV 6)) fNil)))))) (fRet (fC (.bl false))) fPass) (fAsg (fNotV (fV 6)) (gN (cK []) 6)))
def q_l_law_2_1 : FS := (fIfS (fNot (fTru (fFz (fCallF m__law_tree_right (fCons (fFz (fV 4)) (fCons (fFz (fV 6)) fNil)))))) (fRet (fC (.bl false))) fPass)
def q_l_law_2_2 : FS := (fAsg (fNotV (fV 6)) (gN (cK []) 6))
theorem e_l_law_2 : l_law_2 = (fSeq q_l_law_2_1 q_l_law_2_2) := rfl
def g_law_3 : FG := (gN (cK []) 4)
def l_law_4 : FS := (fSeq (fIfS (fOr (fNot (fTru (fFz (fCallF m__law_tree_right (fCons (fFz (fV 4)) (fCons (fFz (fV 6)) fNil)))))) (fNot (fTru (fFz (fCallF m__law_colors_right (fCons (fV 2) (fCons (fFz (fV 4)) (fCons (fNotV (fV 6)) fNil)))))))) (fRet (fC (.bl false))) fPass) (fSeq (fAsg (fFz (fFz (fCallF m_binary_mirror (fCons (fFz (fV 4)) fNil)))) (gN (cK []) 8)) (fSeq (fIfS (fNot (fTru (fFz (fCallF (m__law_same 16) (fCons (fFz (fFz (fCallF m_black_heights (fCons (fFz (fV 8)) fNil)))) (fCons (fFz (fFz (fCallF m_black_heights (fCons (fFz (fV 4)) fNil)))) fNil)))))) (fRet (fC (.bl false))) fPass) (fAsg (fNotV (fV 6)) (gN (cK []) 6)))))
def q_l_law_4_1 : FS := (fIfS (fOr (fNot (fTru (fFz (fCallF m__law_tree_right (fCons (fFz (fV 4)) (fCons (fFz (fV 6)) fNil)))))) (fNot (fTru (fFz (fCallF m__law_colors_right (fCons (fV 2) (fCons (fFz (fV 4)) (fCons (fNotV (fV 6)) fNil)))))))) (fRet (fC (.bl false))) fPass)
def q_l_law_4_2 : FS := (fAsg (fFz (fFz (fCallF m_binary_mirror (fCons (fFz (fV 4)) fNil)))) (gN (cK []) 8))
def q_l_law_4_3 : FS := (fIfS (fNot (fTru (fFz (fCallF (m__law_same 16) (fCons (fFz (fFz (fCallF m_black_heights (fCons (fFz (fV 8)) fNil)))) (fCons (fFz (fFz (fCallF m_black_heights (fCons (fFz (fV 4)) fNil)))) fNil)))))) (fRet (fC (.bl false))) fPass)
def q_l_law_4_4 : FS := (fAsg (fNotV (fV 6)) (gN (cK []) 6))
theorem e_l_law_4 : l_law_4 = (fSeq q_l_law_4_1 (fSeq q_l_law_4_2 (fSeq q_l_law_4_3 q_l_law_4_4))) := rfl
def g_law_5 : FG := (gN (cK []) 1)
def l_law_6 : FS := (fSeq (fAsg (fCallF m__law_box (fCons (fFz (fFz (fCallF m__law_cell (fCons (fFz (fV 0)) (fCons (fFz (fV 1)) fNil))))) fNil)) (gN (cK []) 2)) (fSeq (gPar (cK []) 6 7 (fCons (fBin (sEq false) (fFz (fCallF m__law_take (fCons (fV 2) (fCons (fC (.int 2)) fNil)))) (fC (.int 0))) (fCons (fFz (fIf (fTst (fBin (sEq false) (fV 1) (fC (.int 0)))) (fFz (fBin sIx (fLst (fCons (fC (.int 7)) (fCons (fFz (fFz (fCallF m__law_take (fCons (fV 2) (fCons (fC (.int 7)) fNil))))) (fCons (fFz (fFz (fCallF m__law_take (fCons (fV 2) (fCons (fC (.int 6)) fNil))))) fNil)))) (fFz (fCallF m__law_take (fCons (fV 2) (fCons (fC (.int 3)) fNil)))))) (fFz (fFz (fCallF m__law_take (fCons (fV 2) (fCons (fC (.int 6)) fNil))))))) fNil))) (fSeq (fAsg (fFz (fIf (fTru (fV 6)) (fFz (fFz (fCallK 0 1 [0] m_binaries fNil (fCons (fFz (fV 7)) fNil)))) (fFz (fFz (fCallF m_binaries (fCons (fFz (fV 7)) fNil)))))) (gN (cK []) 3)) (fSeq (fFor (fSeqI (fFz (fV 3))) g_law_1 l_law_2) (fSeq (fAsg (fFz (fFz (fCallF m__law_great (fCons (fV 2) fNil)))) (gN (cK []) 5)) (fFor (fSeqI (fFz (fTup (fCons (fFz (fBin sIx (fV 5) (fC (.int 0)))) (fCons (fFz (fBin sIx (fV 5) (fC (.int 1)))) (fCons (fFz (fBin sIx (fV 5) (fC (.int 0)))) (fCons (fFz (fBin sIx (fV 3) (fFz (fCallF m__law_take (fCons (fV 2) (fCons (fFz (fCall (s1 gLen) (fCons (fV 3) fNil))) fNil)))))) fNil))))))) g_law_3 l_law_4))))))
def q_l_law_6_1 : FS := (fAsg (fCallF m__law_box (fCons (fFz (fFz (fCallF m__law_cell (fCons (fFz (fV 0)) (fCons (fFz (fV 1)) fNil))))) fNil)) (gN (cK []) 2))
def q_l_law_6_2 : FS := (gPar (cK []) 6 7 (fCons (fBin (sEq false) (fFz (fCallF m__law_take (fCons (fV 2) (fCons (fC (.int 2)) fNil)))) (fC (.int 0))) (fCons (fFz (fIf (fTst (fBin (sEq false) (fV 1) (fC (.int 0)))) (fFz (fBin sIx (fLst (fCons (fC (.int 7)) (fCons (fFz (fFz (fCallF m__law_take (fCons (fV 2) (fCons (fC (.int 7)) fNil))))) (fCons (fFz (fFz (fCallF m__law_take (fCons (fV 2) (fCons (fC (.int 6)) fNil))))) fNil)))) (fFz (fCallF m__law_take (fCons (fV 2) (fCons (fC (.int 3)) fNil)))))) (fFz (fFz (fCallF m__law_take (fCons (fV 2) (fCons (fC (.int 6)) fNil))))))) fNil)))
def q_l_law_6_3 : FS := (fAsg (fFz (fIf (fTru (fV 6)) (fFz (fFz (fCallK 0 1 [0] m_binaries fNil (fCons (fFz (fV 7)) fNil)))) (fFz (fFz (fCallF m_binaries (fCons (fFz (fV 7)) fNil)))))) (gN (cK []) 3))
def q_l_law_6_4 : FS := (fFor (fSeqI (fFz (fV 3))) g_law_1 l_law_2)
def q_l_law_6_5 : FS := (fAsg (fFz (fFz (fCallF m__law_great (fCons (fV 2) fNil)))) (gN (cK []) 5))
def q_l_law_6_6 : FS := (fFor (fSeqI (fFz (fTup (fCons (fFz (fBin sIx (fV 5) (fC (.int 0)))) (fCons (fFz (fBin sIx (fV 5) (fC (.int 1)))) (fCons (fFz (fBin sIx (fV 5) (fC (.int 0)))) (fCons (fFz (fBin sIx (fV 3) (fFz (fCallF m__law_take (fCons (fV 2) (fCons (fFz (fCall (s1 gLen) (fCons (fV 3) fNil))) fNil)))))) fNil))))))) g_law_3 l_law_4)
theorem e_l_law_6 : l_law_6 = (fSeq q_l_law_6_1 (fSeq q_l_law_6_2 (fSeq q_l_law_6_3 (fSeq q_l_law_6_4 (fSeq q_l_law_6_5 q_l_law_6_6))))) := rfl
theorem e_law : b_law = (fSeq (fFor (fRg1 (fCons (fFz (fCall (s2 gMax2) (fCons (fC (.int 2)) (fCons (fCall (s2 gMin2) (fCons (fC (.int 3)) (fCons (fCall (s1 gLen) (fCons (fV 0) fNil)) fNil))) fNil)))) fNil)) g_law_5 l_law_6) (fRet (fC (.bl true)))) := rfl
def s_law_1 : FS := (fFor (fRg1 (fCons (fFz (fCall (s2 gMax2) (fCons (fC (.int 2)) (fCons (fCall (s2 gMin2) (fCons (fC (.int 3)) (fCons (fCall (s1 gLen) (fCons (fV 0) fNil)) fNil))) fNil)))) fNil)) g_law_5 l_law_6)
def s_law_2 : FS := (fRet (fC (.bl true)))
theorem e2_law : b_law = (fSeq s_law_1 s_law_2) := rfl
theorem y_law : m_law = fnG 1 9 (cK []) b_law := rfl
end Lk29

set_option Elab.async false
set_option linter.all false
set_option maxRecDepth 100000
set_option maxHeartbeats 4000000
namespace Lk29
open PySem PySem.Spec PyProof.Rows L2 Dv
local macro_rules
  | `(tactic| exists $es:term,*) => `(tactic| simp (config := { implicitDefEqProofs := false }) only [$[$es:term],*, gB_t, fC_e, kV_0, kV_1, kV_2, fV_e, kFzA_0, kFz_0, kFz_1, fFz_e, kMvA_0, kMv_0, kMv_1, fMv_e, look_v, kJ_0, look_a, kO_0, kBin3b_0, kBin3_0, kBin2_0, kBin1_0, fBin_e, kTst_0, fTst_e, kCons2_0, kCons1_0, fCons_e, fNil_e, kLooks2_0, kLooks_0, looks_n, looks_c, kCall2_0, kCall1_0, fCall_e, kAf_0, allFz_n, allFz_c, kOwn_0, owns_n, owns_c, kTup2_0, kTup_0, fTup_e, kLst2_0, kLst_0, fLst_e, kAnd_0, kAnd_1, kOr_0, kOr_1, kNot_0, fAnd_e, fOr_e, fNot_e, kTru3_0, kTru2_0, kTru_0, fTru_e, kAndV_0, kAndV_1, kOrV_0, kOrV_1, kNotV_0, fAndV_e, fOrV_e, fNotV_e, kIfE_0, kIfE_1, fIf_e, kSeq_0, kSeq_1, kSeq_2, kSeq_3, fSeq_e, fPass_e, fRetN_e, fBreak_e, fCont_e, kExpr_0, fExpr_e, kRet_0, fRet_e, kIf_0, kIf_1, fIfS_e, kNx_0, kAsg_0, fAsg_e, gN_e, kPar_0, gPar_e, kPar3_0, gPar3_e, gTupl_e, gsNil_e, kGs_0, gsCons_e, gmNil_e, kGm_0, gmCons_e, kUnp2_0, kUnp_0, fUnp_e, kSet4_0, kSet3_0, kSet2_0, kSet1_0, gSet_e, kIsO_0, kMt6_0, kMt5_0, kMt4_0, kMt3_0, kMt2_0, kMt1_0, fMt_e, kCF3_0, kCF2_0, kCF1_0, fCallF_e, kLd_0, kLdA_0, lend_n, lend_v, lend_a, back_n, back_v, back_a, kPk2_0, kPk_0, pick_n, pick_c, kCK5_0, kCK4_0, kCK3_0, kCK2_0, kCK1_0, fCallK_e, kCh4_0, kCh3_0, kCh3_1, kCh2_0, kCh1_0, fCh_e, kSl4_0, kSl3_0, kSl2_0, kSl1_0, fSl_e, fONone_e, kOS_0, fOSome_e, kNeg_0, fNeg_e, kRl3_0, kRl2_0, kRl1_0, fRevL_e, kIsi2_0, kIsi1_0, fIsi_e, kIsj2_0, kIsj1_0, fIsi2_e, kR1_0, fR1_e, kR2b_0, kR2_0, fR2_e, kLRg_0, fLRg_e, kTRg_0, fTRg_e, kFor_0, fFor_e, kSI2_0, kSI1_0, fSeqI_e, kRg1_0, fRg1_e, kRg2_0, fRg2_e, kRg3_0, fRg3_e, kEn2_0, kEn1_0, fEnum_e, kEa1_0, fEnumA_e, kId2_0, kId1_0, fIdx_e, kCm2_0, kCm1_0, fComp_e, kCm1b_0, fComp2_e, wipe_n, wipe_c, fYes_e, kLs4_0, kLs3_0, kLs2_0, kLs1_0, fLenSet_e, kFn_0, kFn_1, cN_n, cN_c, oC_t, oC_f, oL_0, oL_1, outs_o, cK_n, cK_c, cond_true, cond_false, fnG_e, kW2_0, kW2_1, kW2_2, kW2_3, kW1_0, kW1_1, kL2_0, kL2_1, kL2_2, kL2_3, kL1_0, kC4_0, isi_NoneType_bool, isi_NoneType_int, isi_NoneType_str, isi_NoneType_tuple, isi_NoneType_list, isi_NoneType_dict, isi_bool_bool, isi_bool_int, isi_bool_str, isi_bool_tuple, isi_bool_list, isi_bool_dict, isi_int_bool, isi_int_int, isi_int_str, isi_int_tuple, isi_int_list, isi_int_dict, isi_str_bool, isi_str_int, isi_str_str, isi_str_tuple, isi_str_list, isi_str_dict, isi_tuple_bool, isi_tuple_int, isi_tuple_str, isi_tuple_tuple, isi_tuple_list, isi_tuple_dict, isi_list_bool, isi_list_int, isi_list_str, isi_list_tuple, isi_list_list, isi_list_dict, isi_dict_bool, isi_dict_int, isi_dict_str, isi_dict_tuple, isi_dict_list, isi_dict_dict, ex_m, nt_m, nl_m, frz_fz, frz_ow, s1_e, s2_e, sAdd_i, sSub_i, sMul_i, sDiv_i, sMod_i, sPow_i, sLt_i, sLe_i, sGt_i, sGe_i, nB_t, nB_f, sIs_n, sIs_b, isN_n, isN_t, isN_l, isN_r, isN_i, isN_b, isN_s, isN_o, sEq_i, sEq_b, sEq_o, sEq_l, sEq_t, sIn_te, sIn_le, kEx_0, sIx_t, sIx_l, sIx_r, kIx_0, sIx_o, unfz_n, unfz_c, unfz_m, at_0, at_1, at_2, at_3, gLen_t, gLen_l, gLen_r, gLen_o, gInt_i, gInt_b, gAbs_i, gMax2_i, gMin2_i, gList_t, gList_l, gTuple_l, gTuple_o, gTuple_t, isLs_o, isLs_l, isLs_r, tru_b, tru_i, sApp_e, sExt_t, sExt_l, ty_int, ty_bl, ty_non, ty_str, ty_tup, ty_lst, ty_rol, ty_ow, seqOf_l, seqOf_t, seqOf_r, frzs_fz, Dv.M.frz, Dv.M.frzs, List.getElem?_cons_zero, List.getElem?_cons_succ, List.set_cons_zero, List.set_cons_succ, List.map_cons, List.map_nil, List.replicate_succ, List.replicate_zero, List.cons_append, List.nil_append, List.append_nil, List.length_cons, List.length_nil, List.length_map, List.length_set, Nat.zero_add, Nat.add_zero, decide_true, decide_false, and_self, Bool.not_true, Bool.not_false, Bool.or_true, Bool.true_or, Bool.or_false, Bool.false_or, Bool.and_true, Bool.true_and, Bool.and_false, Bool.false_and, Nat.lt_add_left_iff_pos, Nat.zero_lt_succ, true_and, and_true, Nat.le_refl, Nat.lt_irrefl, List.isEmpty_nil, List.isEmpty_cons, Nat.reduceAdd, Nat.reduceSub, Nat.reduceLeDiff, Nat.reduceLT, Nat.reduceBEq, Nat.reduceEqDiff, Nat.reduceMul, Int.reduceNeg, Nat.le_add_left])
/-! ### drawing -/
def bx (g : Int) (b : Bool) (s c : Int) : M := .ow [.fz (.int g), .fz (.bl b), .fz (.int s), .fz (.int c)]
def Bx (k : Int) (m : M) : Prop := ∃ g b s c, m = bx g b s c ∧ 0 ≤ s ∧ s < 2147483629 ∧ 0 ≤ c ∧ c ≤ k ∧ k ≤ 1000000
theorem Bx.mono {k j : Int} {m : M} (h : Bx k m) (l : k ≤ j) (h2 : j ≤ 1000000) : Bx j m := by
  obtain ⟨g, b, s, c, e, h1, h2, h3, h4⟩ := h
  exact ⟨g, b, s, c, e, h1, h2, h3, by omega, by omega⟩
theorem Bx.isO {k : Int} {m : M} (h : Bx k m) : ∃ l, m = .ow l := by
  obtain ⟨g, b, s, c, e, _⟩ := h
  exact ⟨_, e⟩
theorem log64 {n : Int} (h0 : 0 < n) (h : n ≤ 100000) : n.natAbs.log2 < 9000 := by
  have h1 : n.natAbs ≤ 100000 := by omega
  have h2 : n.natAbs ≠ 0 := by omega
  have := (Nat.log2_lt h2 (k := 17)).mpr (by omega)
  omega
theorem ixb_0 (n : Nat) : ixN (n + 1) 0 = some 0 := by
  unfold ixN; simp
theorem ixb_3 (n : Nat) : ixN (n + 4) 3 = some 3 := ixN_nat (i := 3) (by omega)
theorem take_ok {k n : Int} {b : M} (h : Bx k b) (hk : k + 1 ≤ 1000000) (h0 : 0 < n) (hn : n ≤ 100000) :
    ∃ (d : Int) (l : List M), m__law_take [b, .fz (.int n)] = some (.fz (.int d), [some (.ow l), none]) ∧ 0 ≤ d ∧ d < n ∧ Bx (k + 1) (.ow l) := by
  obtain ⟨g, t, s, c, rfl, s0, s1, c0, c1, ck⟩ := h
  have hlog := log64 h0 hn
  have l64 : (64 : Int).natAbs.log2 < 9000 := by decide +kernel
  by_cases hb : t = true ∧ 0 < g
  · obtain ⟨rfl, hg⟩ := hb
    refine ⟨g % n, [.fz (.int (g / n)), .fz (.bl true), .fz (.int s), .fz (.int c)], ?_, Int.emod_nonneg _ (by omega), Int.emod_lt_of_pos _ h0, ⟨_, _, _, _, rfl, s0, s1, c0, by omega, by omega⟩⟩
    exists y__law_take, e__law_take, bx, hg, h0, hlog, ixb_0
  · have hd : ∃ d : Int, 0 ≤ d ∧ d < n ∧ m__law_take [bx g t s c, .fz (.int n)] = some (.fz (.int d), [some (.ow [.fz (.int g), .fz (.bl t), .fz (.int s), .fz (.int (c + 1))]), none]) := by
      have hb' : (t = true → ¬ 0 < g) := fun e hg => hb ⟨e, hg⟩
      have o1 : okMul 15485959 (c + 1) = true := okMul_l (by decide)
      generalize hm1 : (s + 15485959 * (c + 1) + 179424779) = m1
      have b1 : m1.natAbs < 18446744073709551616 := by omega
      have p5 : (0 : Int) ≤ 5 ∧ (5 : Int) ≤ 1000000 ∧ m1.natAbs < 18446744073709551616 := ⟨by decide, by decide, b1⟩
      generalize hm2 : (m1 ^ (5 : Int).toNat % 2147483647) = m2
      have b2 : 0 ≤ m2 ∧ m2 < 2147483647 := by
        subst hm2
        exact ⟨Int.emod_nonneg _ (by omega), Int.emod_lt_of_pos _ (by omega)⟩
      have o2 : okMul m2 48271 = true := okMul_r (by decide)
      have o3 : okMul 104743 (c + 1) = true := okMul_l (by decide)
      generalize hm3 : (m2 * 48271 + 104743 * (c + 1)) = m3
      have b3 : m3.natAbs < 18446744073709551616 := by omega
      have p3 : (0 : Int) ≤ 3 ∧ (3 : Int) ≤ 1000000 ∧ m3.natAbs < 18446744073709551616 := ⟨by decide, by decide, b3⟩
      have z1 : (0 : Int) < 2147483647 := by decide
      have z2 : (0 : Int) < 2147483587 := by decide
      have z3 : (0 : Int) < 64 := by decide
      refine ⟨(m3 ^ (3 : Int).toNat % 2147483587 / 64) % n, Int.emod_nonneg _ (by omega), Int.emod_lt_of_pos _ h0, ?_⟩
      cases t with
      | false =>
        exists y__law_take, e__law_take, bx, h0, hlog, ixb_3, o1, hm1, p5, hm2, o2, o3, hm3, p3, z1, z2, z3, l64
      | true =>
        have hg : ¬ 0 < g := hb' rfl
        exists y__law_take, e__law_take, bx, h0, hlog, ixb_3, o1, hm1, p5, hm2, o2, o3, hm3, p3, z1, z2, z3, l64, hg
    obtain ⟨d, d0, d1, e⟩ := hd
    exact ⟨d, _, e, d0, d1, ⟨_, _, _, _, rfl, s0, s1, by omega, by omega, by omega⟩⟩

theorem sSl_r (l : List D) (lo hi : Option Int) : sSl (.fz (.rol l)) lo hi = some (.nl (Dv.cutD l lo hi)) := rfl
theorem cell_ok (ns : List Int) (k : Nat) : ∃ v : Int, m__law_cell [.fz (.rol (ns.map .int)), .fz (.int (k : Nat))] = some (.fz (.int v), [none, none]) := by
  by_cases c : k < ns.length
  · have ha := atI_mapInt ns c
    have c' : ((k : Nat) : Int) < ((ns.length : Nat) : Int) := by omega
    refine ⟨ns[k], ?_⟩
    exists y__law_cell, e__law_cell, c', ha
  · have c' : ¬ ((k : Nat) : Int) < ((ns.length : Nat) : Int) := by omega
    have ok : okMul 9343 (k : Nat) = true := okMul_l (by decide)
    have hs : gSum (.ow (((ns.take 1).map D.int).map .fz)) = some (.ex (.int (ns.take 1).sum)) := by
      show ((((unfz _)).bind dints).map fun ns => O.ex (.int ns.sum)) = _
      rw [unfz_m, Option.bind_some, dints_map]; rfl
    have hc : Dv.cutD (ns.map D.int) none (some 1) = (ns.take 1).map D.int := by
      have := cut_lo (ns.map D.int) 1
      rw [List.map_take]
      exact this
    have z : (0 : Int) < 1000003 := by decide
    refine ⟨9343 * (k : Nat) + (ns.take 1).sum % 1000003, ?_⟩
    exists y__law_cell, e__law_cell, c', ok, sSl_r, hc, hs, z
theorem box_ok (g : Int) : ∃ l, m__law_box [.fz (.int g)] = some (.ow l, [none]) ∧ Bx 0 (.ow l) := by
  have p : (0 : Int) ≤ 18 ∧ (18 : Int) ≤ 1000000 ∧ (10 : Int).natAbs < 18446744073709551616 := by decide
  have z : (0 : Int) < 2147483629 := by decide
  refine ⟨[.fz (.int (if g < 0 then -g else g)), .fz (.bl (decide (10 ^ (18 : Int).toNat ≤ (if g < 0 then -g else g)))), .fz (.int ((if g < 0 then -g else g) % 2147483629)), .fz (.int 0)], ?_, ⟨_, _, _, _, rfl, Int.emod_nonneg _ (by omega), Int.emod_lt_of_pos _ z, by omega, by omega, by omega⟩⟩
  generalize hq : (if g < 0 then -g else g) = q
  exists y__law_box, e__law_box, p, z, hq
end Lk29

set_option Elab.async false
set_option linter.all false
set_option maxRecDepth 100000
set_option maxHeartbeats 4000000
namespace Lk29
open PySem PySem.Spec PyProof.Rows L2 Dv
local macro_rules
  | `(tactic| exists $es:term,*) => `(tactic| simp (config := { implicitDefEqProofs := false }) only [$[$es:term],*, gB_t, fC_e, kV_0, kV_1, kV_2, fV_e, kFzA_0, kFz_0, kFz_1, fFz_e, kMvA_0, kMv_0, kMv_1, fMv_e, look_v, kJ_0, look_a, kO_0, kBin3b_0, kBin3_0, kBin2_0, kBin1_0, fBin_e, kTst_0, fTst_e, kCons2_0, kCons1_0, fCons_e, fNil_e, kLooks2_0, kLooks_0, looks_n, looks_c, kCall2_0, kCall1_0, fCall_e, kAf_0, allFz_n, allFz_c, kOwn_0, owns_n, owns_c, kTup2_0, kTup_0, fTup_e, kLst2_0, kLst_0, fLst_e, kAnd_0, kAnd_1, kOr_0, kOr_1, kNot_0, fAnd_e, fOr_e, fNot_e, kTru3_0, kTru2_0, kTru_0, fTru_e, kAndV_0, kAndV_1, kOrV_0, kOrV_1, kNotV_0, fAndV_e, fOrV_e, fNotV_e, kIfE_0, kIfE_1, fIf_e, kSeq_0, kSeq_1, kSeq_2, kSeq_3, fSeq_e, fPass_e, fRetN_e, fBreak_e, fCont_e, kExpr_0, fExpr_e, kRet_0, fRet_e, kIf_0, kIf_1, fIfS_e, kNx_0, kAsg_0, fAsg_e, gN_e, kPar_0, gPar_e, kPar3_0, gPar3_e, gTupl_e, gsNil_e, kGs_0, gsCons_e, gmNil_e, kGm_0, gmCons_e, kUnp2_0, kUnp_0, fUnp_e, kSet4_0, kSet3_0, kSet2_0, kSet1_0, gSet_e, kIsO_0, kMt6_0, kMt5_0, kMt4_0, kMt3_0, kMt2_0, kMt1_0, fMt_e, kCF3_0, kCF2_0, kCF1_0, fCallF_e, kLd_0, kLdA_0, lend_n, lend_v, lend_a, back_n, back_v, back_a, kPk2_0, kPk_0, pick_n, pick_c, kCK5_0, kCK4_0, kCK3_0, kCK2_0, kCK1_0, fCallK_e, kCh4_0, kCh3_0, kCh3_1, kCh2_0, kCh1_0, fCh_e, kSl4_0, kSl3_0, kSl2_0, kSl1_0, fSl_e, fONone_e, kOS_0, fOSome_e, kNeg_0, fNeg_e, kRl3_0, kRl2_0, kRl1_0, fRevL_e, kIsi2_0, kIsi1_0, fIsi_e, kIsj2_0, kIsj1_0, fIsi2_e, kR1_0, fR1_e, kR2b_0, kR2_0, fR2_e, kLRg_0, fLRg_e, kTRg_0, fTRg_e, kFor_0, fFor_e, kSI2_0, kSI1_0, fSeqI_e, kRg1_0, fRg1_e, kRg2_0, fRg2_e, kRg3_0, fRg3_e, kEn2_0, kEn1_0, fEnum_e, kEa1_0, fEnumA_e, kId2_0, kId1_0, fIdx_e, kCm2_0, kCm1_0, fComp_e, kCm1b_0, fComp2_e, wipe_n, wipe_c, fYes_e, kLs4_0, kLs3_0, kLs2_0, kLs1_0, fLenSet_e, kFn_0, kFn_1, cN_n, cN_c, oC_t, oC_f, oL_0, oL_1, outs_o, cK_n, cK_c, cond_true, cond_false, fnG_e, kW2_0, kW2_1, kW2_2, kW2_3, kW1_0, kW1_1, kL2_0, kL2_1, kL2_2, kL2_3, kL1_0, kC4_0, isi_NoneType_bool, isi_NoneType_int, isi_NoneType_str, isi_NoneType_tuple, isi_NoneType_list, isi_NoneType_dict, isi_bool_bool, isi_bool_int, isi_bool_str, isi_bool_tuple, isi_bool_list, isi_bool_dict, isi_int_bool, isi_int_int, isi_int_str, isi_int_tuple, isi_int_list, isi_int_dict, isi_str_bool, isi_str_int, isi_str_str, isi_str_tuple, isi_str_list, isi_str_dict, isi_tuple_bool, isi_tuple_int, isi_tuple_str, isi_tuple_tuple, isi_tuple_list, isi_tuple_dict, isi_list_bool, isi_list_int, isi_list_str, isi_list_tuple, isi_list_list, isi_list_dict, isi_dict_bool, isi_dict_int, isi_dict_str, isi_dict_tuple, isi_dict_list, isi_dict_dict, ex_m, nt_m, nl_m, frz_fz, frz_ow, s1_e, s2_e, sAdd_i, sSub_i, sMul_i, sDiv_i, sMod_i, sPow_i, sLt_i, sLe_i, sGt_i, sGe_i, nB_t, nB_f, sIs_n, sIs_b, isN_n, isN_t, isN_l, isN_r, isN_i, isN_b, isN_s, isN_o, sEq_i, sEq_b, sEq_o, sEq_l, sEq_t, sIn_te, sIn_le, kEx_0, sIx_t, sIx_l, sIx_r, kIx_0, sIx_o, unfz_n, unfz_c, unfz_m, at_0, at_1, at_2, at_3, gLen_t, gLen_l, gLen_r, gLen_o, gInt_i, gInt_b, gAbs_i, gMax2_i, gMin2_i, gList_t, gList_l, gTuple_l, gTuple_o, gTuple_t, isLs_o, isLs_l, isLs_r, tru_b, tru_i, sApp_e, sExt_t, sExt_l, ty_int, ty_bl, ty_non, ty_str, ty_tup, ty_lst, ty_rol, ty_ow, seqOf_l, seqOf_t, seqOf_r, frzs_fz, Dv.M.frz, Dv.M.frzs, List.getElem?_cons_zero, List.getElem?_cons_succ, List.set_cons_zero, List.set_cons_succ, List.map_cons, List.map_nil, List.replicate_succ, List.replicate_zero, List.cons_append, List.nil_append, List.append_nil, List.length_cons, List.length_nil, List.length_map, List.length_set, Nat.zero_add, Nat.add_zero, decide_true, decide_false, and_self, Bool.not_true, Bool.not_false, Bool.or_true, Bool.true_or, Bool.or_false, Bool.false_or, Bool.and_true, Bool.true_and, Bool.and_false, Bool.false_and, Nat.lt_add_left_iff_pos, Nat.zero_lt_succ, true_and, and_true, Nat.le_refl, Nat.lt_irrefl, List.isEmpty_nil, List.isEmpty_cons, Nat.reduceAdd, Nat.reduceSub, Nat.reduceLeDiff, Nat.reduceLT, Nat.reduceBEq, Nat.reduceEqDiff, Nat.reduceMul, Int.reduceNeg, Nat.le_add_left])
/-! ### the same data -/
def Ok : Nat → D → Prop
  | 0, _ => False
  | _ + 1, .non => True
  | _ + 1, .bl _ => True
  | _ + 1, .int _ => True
  | _ + 1, .str z => z.length ≤ 5000
  | k + 1, .tup l => l.length ≤ 5000 ∧ ∀ e ∈ l, Ok k e
  | k + 1, .lst l => l.length ≤ 5000 ∧ ∀ e ∈ l, Ok k e
  | _ + 1, _ => False
theorem Ok.mono : ∀ {k j : Nat} {d : D}, Ok k d → k ≤ j → Ok j d := by
  intro k
  induction k with
  | zero => intro j d h; exact h.elim
  | succ k ih =>
    intro j d h l
    cases j with
    | zero => omega
    | succ j =>
      cases d with
      | non => trivial
      | bl _ => trivial
      | int _ => trivial
      | str _ => exact h
      | rol _ => exact h
      | dic _ _ => exact h
      | tup l' => exact ⟨h.1, fun e he => ih (h.2 e he) (by omega)⟩
      | lst l' => exact ⟨h.1, fun e he => ih (h.2 e he) (by omega)⟩
theorem same_comp (k : Nat) (d : D) (l : List D) (hd : ∀ i : Int, sIx (.fz d) (.fz (.int i)) = kEx (atI l i)) (hk : ∀ e ∈ l, m__law_same k [.fz e, .fz e] = some (.fz (.bl true), [none, none])) (hl : l.length ≤ 5000) :
    fCompL g__law_same_4 (t__law_same_5 (m__law_same k)) v__law_same_6 [2] (rgD 0 ((l.length : Nat) : Int).toNat) [] [some (.fz d), some (.fz d), none] = some ([], [some (.fz d), some (.fz d), none]) := by
  have := comp_filter (g := g__law_same_4) (ft := t__law_same_5 (m__law_same k)) (fe := v__law_same_6) (vs := [2]) (ρ := [some (.fz d), some (.fz d), none]) (fun _ => false) (fun _ => .fz .non) (rgD 0 ((l.length : Nat) : Int).toNat) [] (fun e he => by
    rw [rgD0] at he
    obtain ⟨i, hi, rfl⟩ := List.mem_map.mp he
    have hi : i < l.length := by simpa using hi
    have ha : atI l ((i : Nat) : Int) = some l[i] := atI_get' hi
    have hs := hk l[i] (List.getElem_mem hi)
    refine ⟨[some (.fz d), some (.fz d), some (.fz (.int (i : Nat)))], [some (.fz d), some (.fz d), some (.fz (.int (i : Nat)))], ?_, ?_, fun _ => ?_, fun h => by simp at h⟩
    · exists g__law_same_4
    · exists t__law_same_5, hd, ha, hs
    · exists gB_t) (by rw [rgD0]; simp; omega)
  rw [this]
  simp
theorem same_non (k : Nat) : m__law_same (k + 1) [.fz .non, .fz .non] = some (.fz (.bl true), [none, none]) := by
  exists y__law_same, e__law_same
theorem same_bl (k : Nat) (b : Bool) : m__law_same (k + 1) [.fz (.bl b), .fz (.bl b)] = some (.fz (.bl true), [none, none]) := by
  exists y__law_same, e__law_same
theorem same_int (k : Nat) (i : Int) : m__law_same (k + 1) [.fz (.int i), .fz (.int i)] = some (.fz (.bl true), [none, none]) := by
  have z : i - i = 0 := by omega
  exists y__law_same, e__law_same, z
theorem cutS1 (z : Str) {i : Nat} (h : i < z.cps.size) : cutS z (some (i : Int)) (some ((i : Int) + 1)) = ⟨#[z.cps[i]]⟩ := by
  unfold cutS
  have e : ((i : Nat) : Int) + 1 = ((i + 1 : Nat) : Int) := by omega
  have hz : z.length = z.cps.size := rfl
  rw [e, HT.sIx_nat, HT.sIx_nat, hz, Nat.min_eq_left (by omega), Nat.min_eq_left (by omega), Nat.add_sub_cancel_left]
  congr 1
  have hl : i < z.cps.toList.length := by simpa using h
  rw [List.drop_eq_getElem_cons hl, List.take_succ_cons, List.take_zero]
  simp
theorem same_scomp (z : Str) (hl : z.length ≤ 5000) :
    fCompL g__law_same_1 t__law_same_2 v__law_same_3 [2] (rgD 0 ((z.length : Nat) : Int).toNat) [] [some (.fz (.str z)), some (.fz (.str z)), none] = some ([], [some (.fz (.str z)), some (.fz (.str z)), none]) := by
  have := comp_filter (g := g__law_same_1) (ft := t__law_same_2) (fe := v__law_same_3) (vs := [2]) (ρ := [some (.fz (.str z)), some (.fz (.str z)), none]) (fun _ => false) (fun _ => .fz .non) (rgD 0 ((z.length : Nat) : Int).toNat) [] (fun e he => by
    rw [rgD0] at he
    obtain ⟨i, hi, rfl⟩ := List.mem_map.mp he
    have hi : i < z.cps.size := by
      have : i < z.length := by simpa using hi
      exact this
    have hs := cutS1 z hi
    have ha : sIx (.fz (.str z)) (.fz (.int (i : Nat))) = some (.ex (.str ⟨#[z.cps[i]]⟩)) := by
      show (if z.length ≤ 100000 then (atI z.cps.toList (i : Nat)).map fun c => O.ex (.str ⟨#[c]⟩) else none) = _
      have hi' : i < z.cps.toList.length := by rw [Array.length_toList]; exact hi
      rw [if_pos (by omega), atI_get' hi']
      simp
    have hb : sSl (.fz (.str z)) (some ((i : Nat) : Int)) (some (((i : Nat) : Int) + 1)) = some (.ex (.str ⟨#[z.cps[i]]⟩)) := by
      show (if z.length ≤ 100000 then some (O.ex (.str (cutS z _ _))) else none) = _
      rw [if_pos (by omega), hs]
    have hq : sEq true (.fz (.str ⟨#[z.cps[i]]⟩)) (.fz (.str ⟨#[z.cps[i]]⟩)) = some (.ex (.bl false)) := by
      have := sEq_gen true (a := .fz (.str ⟨#[z.cps[i]]⟩)) (b := .fz (.str ⟨#[z.cps[i]]⟩)) rfl rfl rfl (by unfold shal; simp [M.frz, toP, PyData.depth])
      rw [this, deq_refl]
      rfl
    generalize (⟨#[z.cps[i]]⟩ : Str) = c at ha hb hq
    refine ⟨[some (.fz (.str z)), some (.fz (.str z)), some (.fz (.int (i : Nat)))], [some (.fz (.str z)), some (.fz (.str z)), some (.fz (.int (i : Nat)))], ?_, ?_, fun _ => ?_, fun h => by simp at h⟩
    · exists g__law_same_1
    · exists t__law_same_2, ha, hb, hq
    · exists gB_t) (by rw [rgD0]; simp; omega)
  rw [this]
  simp
theorem same_str (k : Nat) (z : Str) (hl : z.length ≤ 5000) : m__law_same (k + 1) [.fz (.str z), .fz (.str z)] = some (.fz (.bl true), [none, none]) := by
  have hc := same_scomp z hl
  have hr := inRn (n := z.length) (by omega)
  have hg : gLen (.fz (.str z)) = some (.ex (.int z.length)) := if_pos (by omega)
  exists y__law_same, e__law_same, hc, hr, hg
theorem same_tup (k : Nat) (l : List D) (hl : l.length ≤ 5000) (hk : ∀ e ∈ l, m__law_same k [.fz e, .fz e] = some (.fz (.bl true), [none, none])) : m__law_same (k + 1) [.fz (.tup l), .fz (.tup l)] = some (.fz (.bl true), [none, none]) := by
  have hc := same_comp k (.tup l) l (fun i => sIx_t l i) hk hl
  have hr := inRn (n := l.length) (by omega)
  exists y__law_same, e__law_same, hc, hr
theorem same_lst (k : Nat) (l : List D) (hl : l.length ≤ 5000) (hk : ∀ e ∈ l, m__law_same k [.fz e, .fz e] = some (.fz (.bl true), [none, none])) : m__law_same (k + 1) [.fz (.lst l), .fz (.lst l)] = some (.fz (.bl true), [none, none]) := by
  have hc := same_comp k (.lst l) l (fun i => sIx_l l i) hk hl
  have hr := inRn (n := l.length) (by omega)
  exists y__law_same, e__law_same, hc, hr
theorem same_ok : ∀ (k : Nat) (d : D), Ok k d → m__law_same k [.fz d, .fz d] = some (.fz (.bl true), [none, none]) := by
  intro k
  induction k with
  | zero => intro d h; exact h.elim
  | succ k ih =>
    intro d h
    cases d with
    | non => exact same_non k
    | bl b => exact same_bl k b
    | int i => exact same_int k i
    | str z => exact same_str k z h
    | rol _ => exact h.elim
    | dic _ _ => exact h.elim
    | tup l => exact same_tup k l h.1 fun e he => ih e (h.2 e he)
    | lst l => exact same_lst k l h.1 fun e he => ih e (h.2 e he)
theorem Ok.ti {l : List Int} (h : l.length ≤ 5000) : Ok 13 (.tup (l.map .int)) := by
  refine ⟨by simpa using h, fun e he => ?_⟩
  obtain ⟨i, _, rfl⟩ := List.mem_map.mp he
  trivial
theorem Ok.tup {k : Nat} {l : List D} (h : l.length ≤ 5000) (h2 : ∀ e ∈ l, Ok k e) : Ok (k + 1) (.tup l) := ⟨h, h2⟩
theorem Ok.lst {k : Nat} {l : List D} (h : l.length ≤ 5000) (h2 : ∀ e ∈ l, Ok k e) : Ok (k + 1) (.lst l) := ⟨h, h2⟩
theorem Ok.small : ∀ (k : Nat) (d : D), Ok k d → nd d = true ∧ (toP d).depth ≤ k
  | 0, d, h => h.elim
  | k + 1, .non, _ => ⟨rfl, by simp [toP, PyData.depth]⟩
  | k + 1, .bl _, _ => ⟨rfl, by simp [toP, PyData.depth]⟩
  | k + 1, .int _, _ => ⟨rfl, by simp [toP, PyData.depth]⟩
  | k + 1, .str _, h => ⟨rfl, by simp [toP, PyData.depth]⟩
  | k + 1, .rol _, h => h.elim
  | k + 1, .dic _ _, h => h.elim
  | k + 1, .tup l, h => by
    have hl : ∀ l : List D, (∀ e ∈ l, Ok k e) → nds l = true ∧ PyData.depthAll (toPs l) ≤ k := by
      intro l
      induction l with
      | nil => intro _; exact ⟨rfl, Nat.zero_le _⟩
      | cons d l ih =>
        intro h
        obtain ⟨h1, h2⟩ := Ok.small k d (h d List.mem_cons_self)
        obtain ⟨h3, h4⟩ := ih fun e he => h e (List.mem_cons_of_mem _ he)
        refine ⟨by show (nd d && nds l) = true; rw [h1, h3]; rfl, ?_⟩
        show PyData.depthAll (toP d :: toPs l) ≤ k
        simp only [PyData.depthAll]; omega
    obtain ⟨h1, h2⟩ := hl l h.2
    refine ⟨h1, ?_⟩
    show (PyData.tuple (toPs l)).depth ≤ k + 1
    simp only [PyData.depth]; omega
  | k + 1, .lst l, h => by
    have hl : ∀ l : List D, (∀ e ∈ l, Ok k e) → nds l = true ∧ PyData.depthAll (toPs l) ≤ k := by
      intro l
      induction l with
      | nil => intro _; exact ⟨rfl, Nat.zero_le _⟩
      | cons d l ih =>
        intro h
        obtain ⟨h1, h2⟩ := Ok.small k d (h d List.mem_cons_self)
        obtain ⟨h3, h4⟩ := ih fun e he => h e (List.mem_cons_of_mem _ he)
        refine ⟨by show (nd d && nds l) = true; rw [h1, h3]; rfl, ?_⟩
        show PyData.depthAll (toP d :: toPs l) ≤ k
        simp only [PyData.depthAll]; omega
    obtain ⟨h1, h2⟩ := hl l h.2
    refine ⟨h1, ?_⟩
    show (PyData.list (toPs l)).depth ≤ k + 1
    simp only [PyData.depth]; omega
theorem sEq_D (n : Bool) {m1 m2 : M} (h1 : Ok 60 m1.frz) (h2 : Ok 60 m2.frz) (hn : eqN m1 m2 = none) : sEq n m1 m2 = some (.ex (.bl (if n then !deq m1.frz m2.frz else deq m1.frz m2.frz))) := by
  obtain ⟨a1, b1⟩ := Ok.small 60 _ h1
  obtain ⟨a2, b2⟩ := Ok.small 60 _ h2
  exact sEq_gen n hn a1 a2 (by unfold shal; simp only [decide_eq_true_eq]; omega)
end Lk29

set_option Elab.async false
set_option linter.all false
set_option maxRecDepth 100000
set_option maxHeartbeats 4000000
namespace Lk29
open PySem PySem.Spec PyProof.Rows L2 Dv
local macro_rules
  | `(tactic| exists $es:term,*) => `(tactic| simp (config := { implicitDefEqProofs := false }) only [$[$es:term],*, gB_t, fC_e, kV_0, kV_1, kV_2, fV_e, kFzA_0, kFz_0, kFz_1, fFz_e, kMvA_0, kMv_0, kMv_1, fMv_e, look_v, kJ_0, look_a, kO_0, kBin3b_0, kBin3_0, kBin2_0, kBin1_0, fBin_e, kTst_0, fTst_e, kCons2_0, kCons1_0, fCons_e, fNil_e, kLooks2_0, kLooks_0, looks_n, looks_c, kCall2_0, kCall1_0, fCall_e, kAf_0, allFz_n, allFz_c, kOwn_0, owns_n, owns_c, kTup2_0, kTup_0, fTup_e, kLst2_0, kLst_0, fLst_e, kAnd_0, kAnd_1, kOr_0, kOr_1, kNot_0, fAnd_e, fOr_e, fNot_e, kTru3_0, kTru2_0, kTru_0, fTru_e, kAndV_0, kAndV_1, kOrV_0, kOrV_1, kNotV_0, fAndV_e, fOrV_e, fNotV_e, kIfE_0, kIfE_1, fIf_e, kSeq_0, kSeq_1, kSeq_2, kSeq_3, fSeq_e, fPass_e, fRetN_e, fBreak_e, fCont_e, kExpr_0, fExpr_e, kRet_0, fRet_e, kIf_0, kIf_1, fIfS_e, kNx_0, kAsg_0, fAsg_e, gN_e, kPar_0, gPar_e, kPar3_0, gPar3_e, gTupl_e, gsNil_e, kGs_0, gsCons_e, gmNil_e, kGm_0, gmCons_e, kUnp2_0, kUnp_0, fUnp_e, kSet4_0, kSet3_0, kSet2_0, kSet1_0, gSet_e, kIsO_0, kMt6_0, kMt5_0, kMt4_0, kMt3_0, kMt2_0, kMt1_0, fMt_e, kCF3_0, kCF2_0, kCF1_0, fCallF_e, kLd_0, kLdA_0, lend_n, lend_v, lend_a, back_n, back_v, back_a, kPk2_0, kPk_0, pick_n, pick_c, kCK5_0, kCK4_0, kCK3_0, kCK2_0, kCK1_0, fCallK_e, kCh4_0, kCh3_0, kCh3_1, kCh2_0, kCh1_0, fCh_e, kSl4_0, kSl3_0, kSl2_0, kSl1_0, fSl_e, fONone_e, kOS_0, fOSome_e, kNeg_0, fNeg_e, kRl3_0, kRl2_0, kRl1_0, fRevL_e, kIsi2_0, kIsi1_0, fIsi_e, kIsj2_0, kIsj1_0, fIsi2_e, kR1_0, fR1_e, kR2b_0, kR2_0, fR2_e, kLRg_0, fLRg_e, kTRg_0, fTRg_e, kFor_0, fFor_e, kSI2_0, kSI1_0, fSeqI_e, kRg1_0, fRg1_e, kRg2_0, fRg2_e, kRg3_0, fRg3_e, kEn2_0, kEn1_0, fEnum_e, kEa1_0, fEnumA_e, kId2_0, kId1_0, fIdx_e, kCm2_0, kCm1_0, fComp_e, kCm1b_0, fComp2_e, wipe_n, wipe_c, fYes_e, kLs4_0, kLs3_0, kLs2_0, kLs1_0, fLenSet_e, kFn_0, kFn_1, cN_n, cN_c, oC_t, oC_f, oL_0, oL_1, outs_o, cK_n, cK_c, cond_true, cond_false, fnG_e, kW2_0, kW2_1, kW2_2, kW2_3, kW1_0, kW1_1, kL2_0, kL2_1, kL2_2, kL2_3, kL1_0, kC4_0, isi_NoneType_bool, isi_NoneType_int, isi_NoneType_str, isi_NoneType_tuple, isi_NoneType_list, isi_NoneType_dict, isi_bool_bool, isi_bool_int, isi_bool_str, isi_bool_tuple, isi_bool_list, isi_bool_dict, isi_int_bool, isi_int_int, isi_int_str, isi_int_tuple, isi_int_list, isi_int_dict, isi_str_bool, isi_str_int, isi_str_str, isi_str_tuple, isi_str_list, isi_str_dict, isi_tuple_bool, isi_tuple_int, isi_tuple_str, isi_tuple_tuple, isi_tuple_list, isi_tuple_dict, isi_list_bool, isi_list_int, isi_list_str, isi_list_tuple, isi_list_list, isi_list_dict, isi_dict_bool, isi_dict_int, isi_dict_str, isi_dict_tuple, isi_dict_list, isi_dict_dict, ex_m, nt_m, nl_m, frz_fz, frz_ow, s1_e, s2_e, sAdd_i, sSub_i, sMul_i, sDiv_i, sMod_i, sPow_i, sLt_i, sLe_i, sGt_i, sGe_i, nB_t, nB_f, sIs_n, sIs_b, isN_n, isN_t, isN_l, isN_r, isN_i, isN_b, isN_s, isN_o, sEq_i, sEq_b, sEq_o, sEq_l, sEq_t, sIn_te, sIn_le, kEx_0, sIx_t, sIx_l, sIx_r, kIx_0, sIx_o, unfz_n, unfz_c, unfz_m, at_0, at_1, at_2, at_3, gLen_t, gLen_l, gLen_r, gLen_o, gInt_i, gInt_b, gAbs_i, gMax2_i, gMin2_i, gList_t, gList_l, gTuple_l, gTuple_o, gTuple_t, isLs_o, isLs_l, isLs_r, tru_b, tru_i, sApp_e, sExt_t, sExt_l, ty_int, ty_bl, ty_non, ty_str, ty_tup, ty_lst, ty_rol, ty_ow, seqOf_l, seqOf_t, seqOf_r, frzs_fz, Dv.M.frz, Dv.M.frzs, List.getElem?_cons_zero, List.getElem?_cons_succ, List.set_cons_zero, List.set_cons_succ, List.map_cons, List.map_nil, List.replicate_succ, List.replicate_zero, List.cons_append, List.nil_append, List.append_nil, List.length_cons, List.length_nil, List.length_map, List.length_set, Nat.zero_add, Nat.add_zero, decide_true, decide_false, and_self, Bool.not_true, Bool.not_false, Bool.or_true, Bool.true_or, Bool.or_false, Bool.false_or, Bool.and_true, Bool.true_and, Bool.and_false, Bool.false_and, Nat.lt_add_left_iff_pos, Nat.zero_lt_succ, true_and, and_true, Nat.le_refl, Nat.lt_irrefl, List.isEmpty_nil, List.isEmpty_cons, Nat.reduceAdd, Nat.reduceSub, Nat.reduceLeDiff, Nat.reduceLT, Nat.reduceBEq, Nat.reduceEqDiff, Nat.reduceMul, Int.reduceNeg, Nat.le_add_left])
theorem four {d : Int} (h0 : 0 ≤ d) (h1 : d < 4) : d = 0 ∨ d = 1 ∨ d = 2 ∨ d = 3 := by omega
/-! ### binary trees -/
def eb : Bt → D
  | .nil => .non
  | .nd l r => .tup [eb l, eb r]
theorem eb_0 : eb .nil = .non := rfl
theorem eb_1 (l r : Bt) : eb (.nd l r) = .tup [eb l, eb r] := rfl
theorem dq0 {l r : Bt} {k : Nat} (h : (Bt.nd l r).dep < k + 1) : l.dep < k ∧ r.dep < k := by
  simp only [Bt.dep, Nat.max_def] at h
  split at h <;> omega
theorem size_ok : ∀ (t : Bt) (k : Nat), t.dep < k → m__law_size k [.fz (eb t)] = some (.fz (.int (t.sz : Nat)), [none]) := by
  intro t
  induction t with
  | nil =>
    intro k h
    cases k with
    | zero => simp [Bt.dep] at h
    | succ k => exists y__law_size, e__law_size, eb_0, Bt.sz; rfl
  | nd l r ihl ihr =>
    intro k h
    cases k with
    | zero => simp [Bt.dep] at h
    | succ k =>
      have hl := ihl k (dq0 h).1
      have hr := ihr k (dq0 h).2
      exists y__law_size, e__law_size, eb_1, hl, hr, Bt.sz
      congr 4
/-! ### combs -/
theorem comb_loop (N : Option M) : ∀ (ds : List D) (t : Bt) (k : Int) (l : List M) (s : Option M), Bx k (.ow l) → k + ds.length ≤ 1000000 →
    ∃ (t' : Bt) (l' : List M) (s' : Option M), fLoop g__law_comb_1 l__law_comb_2 ds [some (.ow l), N, some (.fz (eb t)), s] = some (.nx [some (.ow l'), N, some (.fz (eb t')), s']) ∧ t'.sz = t.sz + ds.length ∧ Bx (k + ds.length) (.ow l')
  | [], t, k, l, s, h, hk => ⟨t, l, s, rfl, rfl, by simpa using h⟩
  | d :: ds, t, k, l, s, h, hk => by
    simp only [List.length_cons] at hk
    obtain ⟨c, l1, e1, a1, b1, x1⟩ := take_ok (n := 2) h (by omega) (by omega) (by omega)
    have g1 : g__law_comb_1 (.fz d) [some (.ow l), N, some (.fz (eb t)), s] = some [some (.ow l), N, some (.fz (eb t)), some (.fz d)] := by
      exists g__law_comb_1
    have : c = 0 ∨ c = 1 := by omega
    rcases this with rfl | rfl
    · obtain ⟨t', l', s', e, z, x⟩ := comb_loop N ds (.nd t .nil) (k + 1) l1 (some (.fz d)) x1 (by omega)
      refine ⟨t', l', s', ?_, by rw [z]; simp [Bt.sz]; omega, by rw [List.length_cons]; refine x.mono ?_ ?_ <;> omega⟩
      rw [loop_go g1 (ρ2 := [some (.ow l1), N, some (.fz (eb (.nd t .nil))), some (.fz d)]) ?_, e]
      exists l__law_comb_2, eb_1, eb_0, e1
    · obtain ⟨t', l', s', e, z, x⟩ := comb_loop N ds (.nd .nil t) (k + 1) l1 (some (.fz d)) x1 (by omega)
      refine ⟨t', l', s', ?_, by rw [z]; simp [Bt.sz]; omega, by rw [List.length_cons]; refine x.mono ?_ ?_ <;> omega⟩
      rw [loop_go g1 (ρ2 := [some (.ow l1), N, some (.fz (eb (.nd .nil t))), some (.fz d)]) ?_, e]
      exists l__law_comb_2, eb_1, eb_0, e1
theorem comb_ok {k : Int} {l : List M} (n : Nat) (h : Bx k (.ow l)) (hk : k + n ≤ 1000000) (hn : n ≤ 1000) :
    ∃ (t : Bt) (l' : List M), m__law_comb [.ow l, .fz (.int (n : Nat))] = some (.fz (eb t), [some (.ow l'), none]) ∧ t.sz = n ∧ Bx (k + n) (.ow l') := by
  have hl : (rgD 0 n).length = n := by rw [rgD0]; simp
  obtain ⟨t', l', s', e, z, x⟩ := comb_loop (some (.fz (.int (n : Nat)))) (rgD 0 n) .nil k l none h (by rw [hl]; omega)
  rw [hl] at z x
  refine ⟨t', l', ?_, by rw [z]; simp [Bt.sz], x⟩
  have hr : Dv.inR ((n : Nat) : Int) = true := by unfold Dv.inR; simp; omega
  have hz : ((n : Nat) : Int).toNat = n := by omega
  simp only [eb_0] at e
  exists y__law_comb, e__law_comb, hr, hz, e
/-! ### trees by joining -/
theorem atA (A Z : List D) (x : D) : atI (A ++ x :: Z) ((A.length : Nat) : Int) = some x := atI_nat (by simp)
theorem atB (A Z : List D) (x y : D) : atI (A ++ x :: y :: Z) (((A.length : Nat) : Int) + 1) = some y := by
  have : ((A.length : Nat) : Int) + 1 = ((A.length + 1 : Nat) : Int) := by omega
  rw [this]
  refine atI_nat ?_
  rw [List.getElem?_append_right (by omega), show A.length + 1 - A.length = 1 by omega]; rfl
theorem q1_ok {k kind : Int} {l : List M} (L : List D) (N s4 s5 s6 s7 : Option M) (h : Bx k (.ow l)) (hk : k + 2 ≤ 1000000) (h2 : 2 ≤ L.length) (h3 : L.length ≤ 1000) (c0 : 0 ≤ kind) (c1 : kind < 4) :
    ∃ (kk : Nat) (l' : List M), q_l__law_binary_2_1 [some (.ow l), N, some (.fz (.lst L)), some (.fz (.int kind)), s4, s5, s6, s7] = some (.nx [some (.ow l'), N, some (.fz (.lst L)), some (.fz (.int kind)), some (.fz (.int (kk : Nat))), s5, s6, s7]) ∧ kk + 2 ≤ L.length ∧ Bx (k + 2) (.ow l') := by
  obtain ⟨d1, l1, e1, a1, b1, x1⟩ := take_ok (n := ((L.length : Nat) : Int) - 1) h (by omega) (by omega) (by omega)
  obtain ⟨d2, l2, e2, a2, b2, x2⟩ := take_ok (n := ((L.length : Nat) : Int) - 1) x1 (by omega) (by omega) (by omega)
  have hx : Bx (k + 2) (.ow l2) := by
    have : k + 1 + 1 = k + 2 := by omega
    rw [← this]; exact x2
  have key : ∀ o : Int, atI [D.int d1, .int 0, .int (((L.length : Nat) : Int) - 2), .int d2] kind = some (.int o) → 0 ≤ o → o + 2 ≤ (L.length : Nat) →
    ∃ (kk : Nat) (l' : List M), q_l__law_binary_2_1 [some (.ow l), N, some (.fz (.lst L)), some (.fz (.int kind)), s4, s5, s6, s7] = some (.nx [some (.ow l'), N, some (.fz (.lst L)), some (.fz (.int kind)), some (.fz (.int (kk : Nat))), s5, s6, s7]) ∧ kk + 2 ≤ L.length ∧ Bx (k + 2) (.ow l') := by
    intro o ho o0 o1
    obtain ⟨i, rfl⟩ := Int.eq_ofNat_of_zero_le o0
    refine ⟨i, l2, ?_, by omega, hx⟩
    exists q_l__law_binary_2_1, e1, e2, ho
  rcases four c0 c1 with rfl | rfl | rfl | rfl
  · exact key _ (at_0 _ _) (by omega) (by omega)
  · exact key _ (at_1 _ _ _) (by omega) (by omega)
  · exact key _ (at_2 _ _ _ _) (by omega) (by omega)
  · exact key _ (at_3 _ _ _ _ _) (by omega) (by omega)
theorem q2_ok (A Z : List D) (x y : D) (B N K s5 s6 s7 : Option M) : q_l__law_binary_2_2 [B, N, some (.fz (.lst (A ++ x :: y :: Z))), K, some (.fz (.int ((A.length : Nat) : Int))), s5, s6, s7] = some (.nx [B, N, some (.fz (.lst (A ++ x :: y :: Z))), K, some (.fz (.int ((A.length : Nat) : Int))), some (.fz x), some (.fz y), s7]) := by
  exists q_l__law_binary_2_2, atA, atB
theorem q3_ok {k : Int} {l : List M} (p q r s : Bt) (N W K s4 s7 : Option M) (h : Bx k (.ow l)) (hk : k + 1 ≤ 1000000) :
    ∃ (m : Bt) (l' : List M), q_l__law_binary_2_3 [some (.ow l), N, W, K, s4, some (.fz (eb (.nd p q))), some (.fz (eb (.nd r s))), s7] = some (.nx [some (.ow l'), N, W, K, s4, some (.fz (eb (.nd p q))), some (.fz (eb (.nd r s))), some (.fz (eb m))]) ∧ Bx (k + 1) (.ow l') ∧
      (m = .nil ∨ ((∃ u v, m = .nd u v) ∧ m.sz = (Bt.nd p q).sz + (Bt.nd r s).sz)) := by
  have hx := h.mono (j := k + 1) (by omega) (by omega)
  cases r with
  | nd r1 r2 =>
    cases q with
    | nil =>
      refine ⟨.nd p (.nd (.nd r1 r2) s), l, ?_, hx, .inr ⟨⟨_, _, rfl⟩, by simp only [Bt.sz]; omega⟩⟩
      exists q_l__law_binary_2_3, eb_0, eb_1
    | nd q1 q2 =>
      refine ⟨.nil, l, ?_, hx, .inl rfl⟩
      exists q_l__law_binary_2_3, eb_0, eb_1
  | nil =>
    cases q with
    | nd q1 q2 =>
      refine ⟨.nd (.nd p (.nd q1 q2)) s, l, ?_, hx, .inr ⟨⟨_, _, rfl⟩, by simp only [Bt.sz]; omega⟩⟩
      exists q_l__law_binary_2_3, eb_0, eb_1
    | nil =>
      obtain ⟨d, l1, e1, a1, b1, x1⟩ := take_ok (n := 2) h (by omega) (by omega) (by omega)
      by_cases c : d = 0
      · refine ⟨.nd (.nd p .nil) s, l1, ?_, x1, .inr ⟨⟨_, _, rfl⟩, by simp only [Bt.sz]; omega⟩⟩
        exists q_l__law_binary_2_3, eb_0, eb_1, e1, c
      · refine ⟨.nd p (.nd .nil s), l1, ?_, x1, .inr ⟨⟨_, _, rfl⟩, by simp only [Bt.sz]; omega⟩⟩
        exists q_l__law_binary_2_3, eb_0, eb_1, e1, c
theorem sSl_l (l : List D) (lo hi : Option Int) : sSl (.fz (.lst l)) lo hi = some (.nl (Dv.cutD l lo hi)) := rfl
theorem q5_ok (A Z : List D) (x y m : D) (B N K s5 s6 : Option M) (h : (A ++ x :: y :: Z).length ≤ 1000) : q_l__law_binary_2_5 [B, N, some (.fz (.lst (A ++ x :: y :: Z))), K, some (.fz (.int ((A.length : Nat) : Int))), s5, s6, some (.fz m)] = some (.nx [B, N, some (.fz (.lst (A ++ m :: Z))), K, some (.fz (.int ((A.length : Nat) : Int))), s5, s6, some (.fz m)]) := by
  have hc : ((A.length : Nat) : Int) + 2 = ((A.length + 2 : Nat) : Int) := by omega
  have t1 : (A ++ x :: y :: Z).take A.length = A := by simp
  have t2 : (A ++ x :: y :: Z).drop (A.length + 2) = Z := by
    rw [List.drop_append]; simp
  simp at h
  have a1 := sAdd_oo A [m] (by simp; omega)
  have a2 := sAdd_oo (A ++ [m]) Z (by simp; omega)
  simp only [List.map_cons, List.map_nil] at a1
  exists q_l__law_binary_2_5, sSl_l, hc, cut_lo, cut_hi, t1, t2, a1, a2
  simp
def szs : List Bt → Nat
  | [] => 0
  | t :: ts => t.sz + szs ts
theorem szs_app : ∀ a b : List Bt, szs (a ++ b) = szs a + szs b
  | [], b => by simp [szs]
  | t :: a, b => by simp only [List.cons_append, szs, szs_app a b]; omega
def nn (t : Bt) : Prop := ∃ l r, t = .nd l r
theorem bin_loop (nodes : Nat) (kind : Int) (c0 : 0 ≤ kind) (c1 : kind < 4) (hn : nodes ≤ 1000) : ∀ (n : Nat) (ws : List Bt) (k : Int) (l : List M) (s4 s5 s6 s7 : Option M), (∀ w ∈ ws, nn w) → 1 ≤ ws.length → ws.length ≤ n → ws.length ≤ 1000 → szs ws = nodes → Bx k (.ow l) → k + 3 * n + nodes ≤ 1000000 →
    ∃ (w : Bt) (l' : List M), w.sz = nodes ∧ Bx (k + 3 * n + nodes) (.ow l') ∧
      ((∃ tl, fWhile t__law_binary_1 l__law_binary_2 n [some (.ow l), some (.fz (.int (nodes : Nat))), some (.fz (.lst (ws.map eb))), some (.fz (.int kind)), s4, s5, s6, s7] = some (.rt (.fz (eb w)) (some (.ow l') :: some (.fz (.int (nodes : Nat))) :: tl))) ∨
       (∃ tl, fWhile t__law_binary_1 l__law_binary_2 n [some (.ow l), some (.fz (.int (nodes : Nat))), some (.fz (.lst (ws.map eb))), some (.fz (.int kind)), s4, s5, s6, s7] = some (.nx (some (.ow l') :: some (.fz (.int (nodes : Nat))) :: some (.fz (.lst [eb w])) :: tl)))) := by
  intro n
  induction n with
  | zero => intro ws k l s4 s5 s6 s7 _ h1 h2; omega
  | succ n ih =>
    intro ws k l s4 s5 s6 s7 hw h1 h2 h3 hz hb hk
    by_cases c : ws.length = 1
    · obtain ⟨w, rfl⟩ : ∃ w, ws = [w] := List.length_eq_one_iff.mp c
      refine ⟨w, l, by simpa [szs] using hz, hb.mono (by omega) (by omega), .inr ⟨[some (.fz (.int kind)), s4, s5, s6, s7], while_end (ρ1 := [some (.ow l), some (.fz (.int (nodes : Nat))), some (.fz (.lst ([w].map eb))), some (.fz (.int kind)), s4, s5, s6, s7]) ?_⟩⟩
      have : ¬ (1 : Int) < ((1 : Nat) : Int) := by omega
      exists t__law_binary_1, this
    · have hm : 2 ≤ (ws.map eb).length := by simp; omega
      have hm3 : (ws.map eb).length ≤ 1000 := by simp; omega
      obtain ⟨kk, l1, e1, k1, x1⟩ := q1_ok (ws.map eb) (some (.fz (.int (nodes : Nat)))) s4 s5 s6 s7 hb (by omega) hm hm3 c0 c1
      rw [List.length_map] at k1
      obtain ⟨A, a, b, Z, rfl, hA⟩ : ∃ A a b Z, ws = A ++ a :: b :: Z ∧ A.length = kk := by
        refine ⟨ws.take kk, ws[kk], ws[kk + 1], ws.drop (kk + 2), ?_, by simp; omega⟩
        rw [← List.drop_eq_getElem_cons, ← List.drop_eq_getElem_cons, List.take_append_drop]
      obtain ⟨p, q, rfl⟩ := hw a (by simp)
      obtain ⟨r, s, rfl⟩ := hw b (by simp)
      have hA' : (A.map eb).length = kk := by simpa using hA
      have hmap : (A ++ .nd p q :: .nd r s :: Z).map eb = A.map eb ++ eb (.nd p q) :: eb (.nd r s) :: Z.map eb := by simp
      have hlen : (A.map eb ++ eb (.nd p q) :: eb (.nd r s) :: Z.map eb).length ≤ 1000 := by rw [← hmap]; exact hm3
      have gt : (1 : Int) < (((A.map eb ++ eb (.nd p q) :: eb (.nd r s) :: Z.map eb).length : Nat) : Int) := by rw [← hmap]; omega
      rw [hmap] at e1 ⊢
      have e2 := q2_ok (A.map eb) (Z.map eb) (eb (.nd p q)) (eb (.nd r s)) (some (.ow l1)) (some (.fz (.int (nodes : Nat)))) (some (.fz (.int kind))) s5 s6 s7
      obtain ⟨m, l2, e3, x3, hm2⟩ := q3_ok p q r s (some (.fz (.int (nodes : Nat)))) (some (.fz (.lst (A.map eb ++ eb (.nd p q) :: eb (.nd r s) :: Z.map eb)))) (some (.fz (.int kind))) (some (.fz (.int (((A.map eb).length : Nat) : Int)))) s7 x1 (by omega)
      rw [hA'] at e2 e3
      have ht : t__law_binary_1 [some (.ow l), some (.fz (.int (nodes : Nat))), some (.fz (.lst (A.map eb ++ eb (.nd p q) :: eb (.nd r s) :: Z.map eb))), some (.fz (.int kind)), s4, s5, s6, s7] = some (true, [some (.ow l), some (.fz (.int (nodes : Nat))), some (.fz (.lst (A.map eb ++ eb (.nd p q) :: eb (.nd r s) :: Z.map eb))), some (.fz (.int kind)), s4, s5, s6, s7]) := by
        simp only [t__law_binary_1, fTst_e, fBin_e, fCall_e, fCons_e, fNil_e, fV_e, fC_e, List.getElem?_cons_zero, List.getElem?_cons_succ, kV_0, kCons1_0, kCons2_0, kCall1_0, kCall2_0, looks_c, looks_n, look_v, kLooks_0, kLooks2_0, s1_e, gLen_l, kO_0, kBin1_0, kBin2_0, kBin3_0, kBin3b_0, ex_m, sGt_i, kTst_0, gt, decide_true]
      rcases hm2 with rfl | ⟨⟨u, v, rfl⟩, hs⟩
      · obtain ⟨t', l3, e4, z4, x4⟩ := comb_ok nodes x3 (by omega) hn
        refine ⟨t', l3, z4, x4.mono (by omega) (by omega), .inl ⟨[some (.fz (.lst (A.map eb ++ eb (.nd p q) :: eb (.nd r s) :: Z.map eb))), some (.fz (.int kind)), some (.fz (.int (kk : Nat))), some (.fz (eb (.nd p q))), some (.fz (eb (.nd r s))), some (.fz (eb .nil))], while_rt ht ?_⟩⟩
        · rw [e_l__law_binary_2, fSeq_e, e1, kSeq_0, fSeq_e, e2, kSeq_0, fSeq_e, e3, kSeq_0]
          exists q_l__law_binary_2_4, eb_0, e4
      · have e5 := q5_ok (A.map eb) (Z.map eb) (eb (.nd p q)) (eb (.nd r s)) (eb (.nd u v)) (some (.ow l2)) (some (.fz (.int (nodes : Nat)))) (some (.fz (.int kind))) (some (.fz (eb (.nd p q)))) (some (.fz (eb (.nd r s)))) hlen
        rw [hA'] at e5
        have hmap2 : (A ++ .nd u v :: Z).map eb = A.map eb ++ eb (.nd u v) :: Z.map eb := by simp
        obtain ⟨w, l3, z, x, hh⟩ := ih (A ++ .nd u v :: Z) (k + 3) l2 (some (.fz (.int (kk : Nat)))) (some (.fz (eb (.nd p q)))) (some (.fz (eb (.nd r s)))) (some (.fz (eb (.nd u v))))
          (fun w hw' => by
            rcases List.mem_append.mp hw' with hw' | hw'
            · exact hw w (by simp [hw'])
            · rcases List.mem_cons.mp hw' with rfl | hw'
              · exact ⟨_, _, rfl⟩
              · exact hw w (by simp [hw']))
          (by simp; omega) (by simp at h2 ⊢; omega) (by simp at h3 ⊢; omega)
          (by rw [szs_app] at hz ⊢; simp only [szs] at hz ⊢; rw [hs]; omega)
          (by have : k + 2 + 1 = k + 3 := by omega
              rw [← this]; exact x3) (by omega)
        rw [hmap2] at hh
        refine ⟨w, l3, z, x.mono (by omega) (by omega), ?_⟩
        have step : l__law_binary_2 [some (.ow l), some (.fz (.int (nodes : Nat))), some (.fz (.lst (A.map eb ++ eb (.nd p q) :: eb (.nd r s) :: Z.map eb))), some (.fz (.int kind)), s4, s5, s6, s7] = some (.nx [some (.ow l2), some (.fz (.int (nodes : Nat))), some (.fz (.lst (A.map eb ++ eb (.nd u v) :: Z.map eb))), some (.fz (.int kind)), some (.fz (.int (kk : Nat))), some (.fz (eb (.nd p q))), some (.fz (eb (.nd r s))), some (.fz (eb (.nd u v)))]) := by
          rw [e_l__law_binary_2, fSeq_e, e1, kSeq_0, fSeq_e, e2, kSeq_0, fSeq_e, e3, kSeq_0, fSeq_e]
          have e4 : q_l__law_binary_2_4 [some (.ow l2), some (.fz (.int (nodes : Nat))), some (.fz (.lst (A.map eb ++ eb (.nd p q) :: eb (.nd r s) :: Z.map eb))), some (.fz (.int kind)), some (.fz (.int (kk : Nat))), some (.fz (eb (.nd p q))), some (.fz (eb (.nd r s))), some (.fz (eb (.nd u v)))] = some (.nx [some (.ow l2), some (.fz (.int (nodes : Nat))), some (.fz (.lst (A.map eb ++ eb (.nd p q) :: eb (.nd r s) :: Z.map eb))), some (.fz (.int kind)), some (.fz (.int (kk : Nat))), some (.fz (eb (.nd p q))), some (.fz (eb (.nd r s))), some (.fz (eb (.nd u v)))]) := by
            exists q_l__law_binary_2_4, eb_1
          rw [e4, kSeq_0, e5]
        rw [while_go ht step]
        exact hh
theorem szs_rep (n : Nat) : szs (List.replicate n (.nd .nil .nil)) = n := by
  induction n with
  | zero => rfl
  | succ n ih => rw [List.replicate_succ]; simp only [szs, Bt.sz, ih]; omega
theorem binary_ok {k : Int} {l : List M} (n : Nat) (h : Bx k (.ow l)) (hn : n ≤ 100) (hk : k + 5000 ≤ 1000000) :
    ∃ (t : Bt) (l' : List M), m__law_binary [.ow l, .fz (.int (n : Nat))] = some (.fz (eb t), [some (.ow l'), none]) ∧ t.sz = n ∧ Bx (k + 5000) (.ow l') := by
  by_cases c : n = 0
  · subst c
    refine ⟨.nil, l, ?_, rfl, h.mono (by omega) hk⟩
    have : (((0 : Nat) : Int) = 0) := rfl
    exists y__law_binary, e2__law_binary, s__law_binary_1, this, eb_0
  · have nz : ¬ ((n : Nat) : Int) = 0 := by omega
    obtain ⟨kind, l1, e1, a1, b1, x1⟩ := take_ok (n := 4) h (by omega) (by omega) (by omega)
    have hm : sMul (.ow [.fz (.tup [.non, .non])]) (.fz (.int (n : Nat))) = some (.nl ((List.replicate n (.nd .nil .nil)).map eb)) := by
      show ((asLH (.ow [.fz (.tup [.non, .non])])).bind fun l => if (decide (((n : Nat) : Int) ≤ 100000) && decide (-100000 ≤ ((n : Nat) : Int)) && decide (l.length * ((n : Nat) : Int).toNat ≤ 100000)) = true then some (O.nl (List.replicate ((n : Nat) : Int).toNat l).flatten) else none) = _
      have : asLH (.ow [.fz (.tup [.non, .non])]) = some [.tup [.non, .non]] := rfl
      rw [this, Option.bind_some, if_pos (by simp; omega)]
      congr 2
      simp only [Int.toNat_natCast]
      clear h hn c nz hk e1
      induction n with
      | zero => rfl
      | succ n ih => rw [List.replicate_succ, List.replicate_succ, List.flatten_cons, ih, List.map_cons]; rfl
    have e2 : s__law_binary_2 [some (.ow l), some (.fz (.int (n : Nat))), none, none, none, none, none, none] = some (.nx [some (.ow l1), some (.fz (.int (n : Nat))), some (.fz (.lst ((List.replicate n (.nd .nil .nil)).map eb))), some (.fz (.int kind)), none, none, none, none]) := by
      exists s__law_binary_2, hm, e1
    obtain ⟨w, l2, z, x, hh⟩ := bin_loop n kind a1 b1 (by omega) 1000 (List.replicate n (.nd .nil .nil)) (k + 1) l1 none none none none
      (fun w hw => by rw [List.eq_of_mem_replicate hw]; exact ⟨_, _, rfl⟩) (by simp; omega) (by simp; omega) (by simp; omega) (szs_rep n) x1 (by omega)
    refine ⟨w, l2, ?_, z, x.mono (by omega) hk⟩
    rcases hh with ⟨tl, e3⟩ | ⟨tl, e3⟩
    · rw [← s__law_binary_3] at e3
      exists y__law_binary, e2__law_binary, s__law_binary_1, nz, e2, e3
    · rw [← s__law_binary_3] at e3
      exists y__law_binary, e2__law_binary, s__law_binary_1, s__law_binary_4, nz, e2, e3
end Lk29

set_option Elab.async false
set_option linter.all false
set_option maxRecDepth 100000
set_option maxHeartbeats 4000000
namespace Lk29
open PySem PySem.Spec PyProof.Rows L2 Dv
local macro_rules
  | `(tactic| exists $es:term,*) => `(tactic| simp (config := { implicitDefEqProofs := false }) only [$[$es:term],*, gB_t, fC_e, kV_0, kV_1, kV_2, fV_e, kFzA_0, kFz_0, kFz_1, fFz_e, kMvA_0, kMv_0, kMv_1, fMv_e, look_v, kJ_0, look_a, kO_0, kBin3b_0, kBin3_0, kBin2_0, kBin1_0, fBin_e, kTst_0, fTst_e, kCons2_0, kCons1_0, fCons_e, fNil_e, kLooks2_0, kLooks_0, looks_n, looks_c, kCall2_0, kCall1_0, fCall_e, kAf_0, allFz_n, allFz_c, kOwn_0, owns_n, owns_c, kTup2_0, kTup_0, fTup_e, kLst2_0, kLst_0, fLst_e, kAnd_0, kAnd_1, kOr_0, kOr_1, kNot_0, fAnd_e, fOr_e, fNot_e, kTru3_0, kTru2_0, kTru_0, fTru_e, kAndV_0, kAndV_1, kOrV_0, kOrV_1, kNotV_0, fAndV_e, fOrV_e, fNotV_e, kIfE_0, kIfE_1, fIf_e, kSeq_0, kSeq_1, kSeq_2, kSeq_3, fSeq_e, fPass_e, fRetN_e, fBreak_e, fCont_e, kExpr_0, fExpr_e, kRet_0, fRet_e, kIf_0, kIf_1, fIfS_e, kNx_0, kAsg_0, fAsg_e, gN_e, kPar_0, gPar_e, kPar3_0, gPar3_e, gTupl_e, gsNil_e, kGs_0, gsCons_e, gmNil_e, kGm_0, gmCons_e, kUnp2_0, kUnp_0, fUnp_e, kSet4_0, kSet3_0, kSet2_0, kSet1_0, gSet_e, kIsO_0, kMt6_0, kMt5_0, kMt4_0, kMt3_0, kMt2_0, kMt1_0, fMt_e, kCF3_0, kCF2_0, kCF1_0, fCallF_e, kLd_0, kLdA_0, lend_n, lend_v, lend_a, back_n, back_v, back_a, kPk2_0, kPk_0, pick_n, pick_c, kCK5_0, kCK4_0, kCK3_0, kCK2_0, kCK1_0, fCallK_e, kCh4_0, kCh3_0, kCh3_1, kCh2_0, kCh1_0, fCh_e, kSl4_0, kSl3_0, kSl2_0, kSl1_0, fSl_e, fONone_e, kOS_0, fOSome_e, kNeg_0, fNeg_e, kRl3_0, kRl2_0, kRl1_0, fRevL_e, kIsi2_0, kIsi1_0, fIsi_e, kIsj2_0, kIsj1_0, fIsi2_e, kR1_0, fR1_e, kR2b_0, kR2_0, fR2_e, kLRg_0, fLRg_e, kTRg_0, fTRg_e, kFor_0, fFor_e, kSI2_0, kSI1_0, fSeqI_e, kRg1_0, fRg1_e, kRg2_0, fRg2_e, kRg3_0, fRg3_e, kEn2_0, kEn1_0, fEnum_e, kEa1_0, fEnumA_e, kId2_0, kId1_0, fIdx_e, kCm2_0, kCm1_0, fComp_e, kCm1b_0, fComp2_e, wipe_n, wipe_c, fYes_e, kLs4_0, kLs3_0, kLs2_0, kLs1_0, fLenSet_e, kFn_0, kFn_1, cN_n, cN_c, oC_t, oC_f, oL_0, oL_1, outs_o, cK_n, cK_c, cond_true, cond_false, fnG_e, kW2_0, kW2_1, kW2_2, kW2_3, kW1_0, kW1_1, kL2_0, kL2_1, kL2_2, kL2_3, kL1_0, kC4_0, isi_NoneType_bool, isi_NoneType_int, isi_NoneType_str, isi_NoneType_tuple, isi_NoneType_list, isi_NoneType_dict, isi_bool_bool, isi_bool_int, isi_bool_str, isi_bool_tuple, isi_bool_list, isi_bool_dict, isi_int_bool, isi_int_int, isi_int_str, isi_int_tuple, isi_int_list, isi_int_dict, isi_str_bool, isi_str_int, isi_str_str, isi_str_tuple, isi_str_list, isi_str_dict, isi_tuple_bool, isi_tuple_int, isi_tuple_str, isi_tuple_tuple, isi_tuple_list, isi_tuple_dict, isi_list_bool, isi_list_int, isi_list_str, isi_list_tuple, isi_list_list, isi_list_dict, isi_dict_bool, isi_dict_int, isi_dict_str, isi_dict_tuple, isi_dict_list, isi_dict_dict, ex_m, nt_m, nl_m, frz_fz, frz_ow, s1_e, s2_e, sAdd_i, sSub_i, sMul_i, sDiv_i, sMod_i, sPow_i, sLt_i, sLe_i, sGt_i, sGe_i, nB_t, nB_f, sIs_n, sIs_b, isN_n, isN_t, isN_l, isN_r, isN_i, isN_b, isN_s, isN_o, sEq_i, sEq_b, sEq_o, sEq_l, sEq_t, sIn_te, sIn_le, kEx_0, sIx_t, sIx_l, sIx_r, kIx_0, sIx_o, unfz_n, unfz_c, unfz_m, at_0, at_1, at_2, at_3, gLen_t, gLen_l, gLen_r, gLen_o, gInt_i, gInt_b, gAbs_i, gMax2_i, gMin2_i, gList_t, gList_l, gTuple_l, gTuple_o, gTuple_t, isLs_o, isLs_l, isLs_r, tru_b, tru_i, sApp_e, sExt_t, sExt_l, ty_int, ty_bl, ty_non, ty_str, ty_tup, ty_lst, ty_rol, ty_ow, seqOf_l, seqOf_t, seqOf_r, frzs_fz, Dv.M.frz, Dv.M.frzs, List.getElem?_cons_zero, List.getElem?_cons_succ, List.set_cons_zero, List.set_cons_succ, List.map_cons, List.map_nil, List.replicate_succ, List.replicate_zero, List.cons_append, List.nil_append, List.append_nil, List.length_cons, List.length_nil, List.length_map, List.length_set, Nat.zero_add, Nat.add_zero, decide_true, decide_false, and_self, Bool.not_true, Bool.not_false, Bool.or_true, Bool.true_or, Bool.or_false, Bool.false_or, Bool.and_true, Bool.true_and, Bool.and_false, Bool.false_and, Nat.lt_add_left_iff_pos, Nat.zero_lt_succ, true_and, and_true, Nat.le_refl, Nat.lt_irrefl, List.isEmpty_nil, List.isEmpty_cons, Nat.reduceAdd, Nat.reduceSub, Nat.reduceLeDiff, Nat.reduceLT, Nat.reduceBEq, Nat.reduceEqDiff, Nat.reduceMul, Int.reduceNeg, Nat.le_add_left])
/-! ### treebench.binary: what it tells -/
def stB (ws : List Bt) : M := .ow ((ws.reverse.map eb).map .fz)
theorem stB_pop (w : Bt) (ws : List Bt) : sPop (((w :: ws).reverse.map eb).map M.fz) [] = some ((ws.reverse.map eb).map .fz, .fz (eb w)) := by
  simp [sPop]
theorem stB_ne (w : Bt) (ws : List Bt) : ((((w :: ws).reverse.map eb).map M.fz).isEmpty) = false := by simp
theorem stB_ext (l r : Bt) (ws : List Bt) (h : ws.length ≤ 1000) : sExt ((ws.reverse.map eb).map .fz) [.fz (.tup [eb l, eb r])] = some (((r :: l :: ws).reverse.map eb).map .fz, .fz .non) := by
  simp [sExt]
  omega
theorem mapmB {α : Type} (l : List α) (f : α → D) : (l.map fun x => M.fz (f x)) = (l.map f).map M.fz := by rw [List.map_map]; rfl
theorem two2 : (((2 : Nat) : Int) = 2) := rfl
theorem bin_loop2 (B : Option M) : ∀ (n : Nat) (ws : List Bt) (many : Nat) (s3 : Option M), 2 * szs ws + ws.length < n → n ≤ 1000 → many + szs ws ≤ 12 →
    ∃ E s3', fWhile t_is_binary_1 l_is_binary_2 n [B, some (stB ws), some (.fz (.int (many : Nat))), s3] = some (.nx [B, some (.ow []), E, s3']) := by
  intro n
  induction n with
  | zero => intro ws many s3 h; omega
  | succ n ih =>
    intro ws many s3 h h1000 hm
    cases ws with
    | nil =>
      refine ⟨some (.fz (.int (many : Nat))), s3, while_end ?_⟩
      exists t_is_binary_1, stB, List.reverse_nil
    | cons w ws =>
      have hp := stB_pop w ws
      have hne := stB_ne w ws
      have hc : t_is_binary_1 [B, some (stB (w :: ws)), some (.fz (.int (many : Nat))), s3] = some (true, [B, some (stB (w :: ws)), some (.fz (.int (many : Nat))), s3]) := by
        exists t_is_binary_1, stB, hne
      cases w with
      | nil =>
        simp only [szs, Bt.sz, List.length_cons] at h hm
        obtain ⟨E, s3', e⟩ := ih ws many (some (.fz (eb .nil))) (by omega) (by omega) (by omega)
        refine ⟨E, s3', ?_⟩
        rw [while_go hc (ρ2 := [B, some (stB ws), some (.fz (.int (many : Nat))), some (.fz (eb .nil))]) ?_, e]
        exists l_is_binary_2, stB, hp, eb_0
      | nd l r =>
        simp only [szs, Bt.sz, List.length_cons] at h hm
        obtain ⟨E, s3', e⟩ := ih (r :: l :: ws) (many + 1) (some (.fz (eb (.nd l r)))) (by simp only [szs, List.length_cons]; omega) (by omega) (by simp only [szs]; omega)
        refine ⟨E, s3', ?_⟩
        have hx := stB_ext l r ws (by omega)
        have h12 : ¬ ((12 : Int) < ((many + 1 : Nat) : Int)) := by omega
        have hq : ((many : Nat) : Int) + 1 = ((many + 1 : Nat) : Int) := by omega
        rw [while_go hc (ρ2 := [B, some (stB (r :: l :: ws)), some (.fz (.int ((many + 1 : Nat) : Int))), some (.fz (eb (.nd l r)))]) ?_, e]
        simp only [stB, eb_1] at hp hx
        exists l_is_binary_2, stB, eb_1, hp, hx, h12, hq, two2
theorem is_binary_ok (t : Bt) (h : t.sz ≤ 12) : m_is_binary [.fz (eb t)] = some (.fz (.bl true), [none]) := by
  obtain ⟨E, s3', e⟩ := bin_loop2 (some (.fz (eb t))) 1000 [t] 0 none (by simp only [szs, List.length_cons, List.length_nil]; omega) (by omega) (by simp only [szs]; omega)
  have e' : fWhile t_is_binary_1 l_is_binary_2 1000 [some (.fz (eb t)), some (.ow [.fz (eb t)]), some (.fz (.int 0)), none] = some (.nx [some (.fz (eb t)), some (.ow []), E, s3']) := e
  exists y_is_binary, e_is_binary, e'
theorem check_ok (t : Bt) (h : t.sz ≤ 12) : m_check_binary [.fz (eb t)] = some (.fz .non, [none]) := by
  have e := is_binary_ok t h
  exists y_check_binary, e_check_binary, e
theorem size_loop (B : Option M) : ∀ (n : Nat) (ws : List Bt) (many : Nat) (s3 : Option M), 2 * szs ws + ws.length < n → n ≤ 1000 →
    ∃ s3', fWhile t_size_of_1 l_size_of_2 n [B, some (.fz (.int (many : Nat))), some (stB ws), s3] = some (.nx [B, some (.fz (.int ((many + szs ws : Nat) : Int))), some (.ow []), s3']) := by
  intro n
  induction n with
  | zero => intro ws many s3 h; omega
  | succ n ih =>
    intro ws many s3 h h1000
    cases ws with
    | nil =>
      refine ⟨s3, while_end ?_⟩
      exists t_size_of_1, stB, szs, List.reverse_nil
    | cons w ws =>
      have hp := stB_pop w ws
      have hne := stB_ne w ws
      have hc : t_size_of_1 [B, some (.fz (.int (many : Nat))), some (stB (w :: ws)), s3] = some (true, [B, some (.fz (.int (many : Nat))), some (stB (w :: ws)), s3]) := by
        exists t_size_of_1, stB, hne
      cases w with
      | nil =>
        simp only [szs, Bt.sz, List.length_cons] at h ⊢
        obtain ⟨s3', e⟩ := ih ws many (some (.fz (eb .nil))) (by omega) (by omega)
        refine ⟨s3', ?_⟩
        rw [Nat.zero_add, while_go hc (ρ2 := [B, some (.fz (.int (many : Nat))), some (stB ws), some (.fz (eb .nil))]) ?_, e]
        exists l_size_of_2, stB, hp, eb_0
      | nd l r =>
        simp only [szs, Bt.sz, List.length_cons] at h ⊢
        obtain ⟨s3', e⟩ := ih (r :: l :: ws) (many + 1) (some (.fz (eb (.nd l r)))) (by simp only [szs, List.length_cons]; omega) (by omega)
        refine ⟨s3', ?_⟩
        have hx := stB_ext l r ws (by omega)
        have hq : ((many : Nat) : Int) + 1 = ((many + 1 : Nat) : Int) := by omega
        have hs : many + (1 + l.sz + r.sz + szs ws) = many + 1 + szs (r :: l :: ws) := by simp only [szs]; omega
        rw [hs, while_go hc (ρ2 := [B, some (.fz (.int ((many + 1 : Nat) : Int))), some (stB (r :: l :: ws)), some (.fz (eb (.nd l r)))]) ?_, e]
        exists l_size_of_2, stB, hp, eb_1, hx, hq
theorem sizeof_ok (t : Bt) (h : t.sz ≤ 400) : m_size_of [.fz (eb t)] = some (.fz (.int (t.sz : Nat)), [none]) := by
  obtain ⟨s3', e⟩ := size_loop (some (.fz (eb t))) 1000 [t] 0 none (by simp only [szs, List.length_cons, List.length_nil]; omega) (by omega)
  have hz : 0 + szs [t] = t.sz := by simp [szs]
  rw [hz] at e
  have e' : fWhile t_size_of_1 l_size_of_2 1000 [some (.fz (eb t)), some (.fz (.int 0)), some (.ow [.fz (eb t)]), none] = some (.nx [some (.fz (eb t)), some (.fz (.int (t.sz : Nat))), some (.ow []), s3']) := e
  exists y_size_of, e_size_of, e'
theorem turned_ok : ∀ (t : Bt) (k : Nat), t.dep < k → m_turned k [.fz (eb t)] = some (.fz (eb t.rev), [none]) := by
  intro t
  induction t with
  | nil =>
    intro k h
    cases k with
    | zero => simp [Bt.dep] at h
    | succ k => exists y_turned, e_turned, eb_0, Bt.rev
  | nd l r ihl ihr =>
    intro k h
    cases k with
    | zero => simp [Bt.dep] at h
    | succ k =>
      have hl := ihl k (dq0 h).1
      have hr := ihr k (dq0 h).2
      exists y_turned, e_turned, eb_1, Bt.rev, hl, hr
theorem mirror_ok (t : Bt) (h : t.sz ≤ 12) : m_binary_mirror [.fz (eb t)] = some (.fz (eb t.rev), [none]) := by
  have e := check_ok t h
  have e2 := turned_ok t 16 (by have := t.dep_le; omega)
  exists y_binary_mirror, e_binary_mirror, e, e2
theorem mirror_okK (t : Bt) (h : t.sz ≤ 12) : m_binary_mirror [.fz (eb t)] = some (.fz (eb t.rev), [none]) := mirror_ok t h
/-! all shapes of a size -/
def cat : Nat → Nat
  | 0 => 1 | 1 => 1 | 2 => 2 | 3 => 5 | 4 => 14 | 5 => 42 | 6 => 132 | 7 => 429 | _ => 1
theorem cat_pos (n : Nat) : 0 < cat n := by unfold cat; split <;> decide
theorem cat_le (n : Nat) : cat n ≤ 429 := by unfold cat; split <;> decide
theorem catalan_ok (n : Nat) (h : n ≤ 7) : m_catalan [.fz (.int (n : Nat))] = some (.fz (.int (cat n : Nat)), [none]) := by
  have : n = 0 ∨ n = 1 ∨ n = 2 ∨ n = 3 ∨ n = 4 ∨ n = 5 ∨ n = 6 ∨ n = 7 := by omega
  rcases this with rfl | rfl | rfl | rfl | rfl | rfl | rfl | rfl <;> kernel_rfl
def csum (n : Nat) : Nat → Nat → Nat
  | _, 0 => 0
  | j, k + 1 => cat j * cat (n - 1 - j) + csum n (j + 1) k
theorem csum_all (n : Nat) (h0 : 0 < n) (h : n ≤ 7) : csum n 0 n = cat n := by
  have : n = 1 ∨ n = 2 ∨ n = 3 ∨ n = 4 ∨ n = 5 ∨ n = 6 ∨ n = 7 := by omega
  rcases this with rfl | rfl | rfl | rfl | rfl | rfl | rfl <;> rfl
theorem okMul_n (a b : Nat) (h : a ≤ 429) : okMul (a : Int) (b : Int) = true := okMul_l (by omega)
theorem rank_loop (n : Nat) (h7 : n ≤ 7) (R : Option M) : ∀ (k f left rest : Nat), left + k = n → rest < csum n left k → k < f →
    ∃ (l r : Nat), fWhile t_tree_at_1 l_tree_at_2 f [some (.fz (.int (n : Nat))), R, some (.fz (.int (left : Nat))), some (.fz (.int (rest : Nat))), none] = some (.nx [some (.fz (.int (n : Nat))), R, some (.fz (.int (l : Nat))), some (.fz (.int (r : Nat))), none]) ∧ l < n ∧ r < cat l * cat (n - 1 - l) := by
  intro k
  induction k with
  | zero => intro f left rest _ h; simp [csum] at h
  | succ k ih =>
    intro f left rest h hr hf
    have c1 := catalan_ok left (by omega)
    have hd : ((n : Nat) : Int) - 1 - ((left : Nat) : Int) = ((n - 1 - left : Nat) : Int) := by omega
    have c2 := catalan_ok (n - 1 - left) (by omega)
    have ok := okMul_n (cat left) (cat (n - 1 - left)) (cat_le _)
    have hm : ((cat left : Nat) : Int) * ((cat (n - 1 - left) : Nat) : Int) = ((cat left * cat (n - 1 - left) : Nat) : Int) := by simp
    simp only [csum] at hr
    generalize hc : cat left * cat (n - 1 - left) = c at *
    cases f with
    | zero => omega
    | succ f =>
      by_cases hlt : rest < c
      · refine ⟨left, rest, while_end ?_, by omega, by rw [hc]; exact hlt⟩
        have : ¬ ((c : Nat) : Int) ≤ ((rest : Nat) : Int) := by omega
        exists t_tree_at_1, c1, hd, c2, ok, hm, this
      · have hle : ((c : Nat) : Int) ≤ ((rest : Nat) : Int) := by omega
        have e1 : ((rest : Nat) : Int) - ((c : Nat) : Int) = ((rest - c : Nat) : Int) := by omega
        have e2 : ((left : Nat) : Int) + 1 = ((left + 1 : Nat) : Int) := by omega
        obtain ⟨l, r, e, hl, hrr⟩ := ih f (left + 1) (rest - c) (by omega) (by omega) (by omega)
        refine ⟨l, r, ?_, hl, hrr⟩
        rw [while_go (ρ1 := [some (.fz (.int (n : Nat))), R, some (.fz (.int (left : Nat))), some (.fz (.int (rest : Nat))), none]) (ρ2 := [some (.fz (.int (n : Nat))), R, some (.fz (.int ((left + 1 : Nat) : Int))), some (.fz (.int ((rest - c : Nat) : Int))), none]) ?_ ?_, e]
        · exists t_tree_at_1, c1, hd, c2, ok, hm, hle
        · exists l_tree_at_2, c1, hd, c2, ok, hm, e1, e2
theorem treeat_ok : ∀ (k n r : Nat), n < k → n ≤ 7 → r < cat n → ∃ t : Bt, m_tree_at k [.fz (.int (n : Nat)), .fz (.int (r : Nat))] = some (.fz (eb t), [none, none]) ∧ t.sz = n := by
  intro k
  induction k with
  | zero => intro n r h; omega
  | succ k ih =>
    intro n r h h7 hr
    by_cases c : n = 0
    · subst c
      refine ⟨.nil, ?_, rfl⟩
      have z : (((0 : Nat) : Int) = 0) := rfl
      exists y_tree_at, e_tree_at, eb_0, z
    · have nz : ¬ ((n : Nat) : Int) = 0 := by omega
      obtain ⟨l, r', e, hl, hrr⟩ := rank_loop n h7 (some (.fz (.int (r : Nat)))) n 1000 0 r (by omega) (by rw [csum_all n (by omega) h7]; exact hr) (by omega)
      have hd : ((n : Nat) : Int) - 1 - ((l : Nat) : Int) = ((n - 1 - l : Nat) : Int) := by omega
      have c2 := catalan_ok (n - 1 - l) (by omega)
      have p2 := cat_pos (n - 1 - l)
      obtain ⟨t1, e1, z1⟩ := ih l (r' / cat (n - 1 - l)) (by omega) (by omega) (by
        rw [Nat.div_lt_iff_lt_mul p2]; exact hrr)
      obtain ⟨t2, e2, z2⟩ := ih (n - 1 - l) (r' % cat (n - 1 - l)) (by omega) (by omega) (Nat.mod_lt _ p2)
      refine ⟨.nd t1 t2, ?_, by simp only [Bt.sz]; omega⟩
      have q1 : ((r' : Nat) : Int) / ((cat (n - 1 - l) : Nat) : Int) = ((r' / cat (n - 1 - l) : Nat) : Int) := by simp
      have q2 : ((r' : Nat) : Int) % ((cat (n - 1 - l) : Nat) : Int) = ((r' % cat (n - 1 - l) : Nat) : Int) := by simp
      have p3 : (0 : Int) < ((cat (n - 1 - l) : Nat) : Int) := by omega
      have hlog : ((cat (n - 1 - l) : Nat) : Int).natAbs.log2 < 9000 := log64 p3 (by have := cat_le (n - 1 - l); omega)
      have e' : fWhile t_tree_at_1 l_tree_at_2 1000 [some (.fz (.int (n : Nat))), some (.fz (.int (r : Nat))), some (.fz (.int 0)), some (.fz (.int (r : Nat))), none] = some (.nx [some (.fz (.int (n : Nat))), some (.fz (.int (r : Nat))), some (.fz (.int (l : Nat))), some (.fz (.int (r' : Nat))), none]) := e
      exists y_tree_at, e_tree_at, eb_1, nz, e', hd, c2, p3, hlog, q1, q2, e1, e2
theorem choice_list {α β : Type} (P : α → β → Prop) : ∀ l : List α, (∀ a ∈ l, ∃ b, P a b) → ∃ m : List β, m.length = l.length ∧ ∀ i (h : i < l.length) (h' : i < m.length), P l[i] m[i]
  | [], _ => ⟨[], rfl, fun i h => by simp at h⟩
  | a :: l, h => by
    obtain ⟨b, hb⟩ := h a List.mem_cons_self
    obtain ⟨m, hm, hi⟩ := choice_list P l fun a ha => h a (List.mem_cons_of_mem _ ha)
    refine ⟨b :: m, by simp [hm], fun i h1 h2 => ?_⟩
    cases i with
    | zero => exact hb
    | succ i => exact hi i (by simpa using h1) (by simpa using h2)
def allB (n : Nat) (ts : List Bt) : Prop := ts.length = cat n ∧ ∀ t ∈ ts, t.sz = n
theorem binaries_ok (n : Nat) (h : n ≤ 7) : ∃ ts : List Bt, m_binaries [.fz (.int (n : Nat))] = some (.fz (.lst (ts.map eb)), [none]) ∧ allB n ts := by
  have hx : ∀ r : Nat, ∃ t : Bt, r < cat n → m_tree_at 16 [.fz (.int (n : Nat)), .fz (.int (r : Nat))] = some (.fz (eb t), [none, none]) ∧ t.sz = n := by
    intro r
    by_cases c : r < cat n
    · obtain ⟨t, e, z⟩ := treeat_ok 16 n r (by omega) h c
      exact ⟨t, fun _ => ⟨e, z⟩⟩
    · exact ⟨.nil, fun h => absurd h c⟩
  obtain ⟨F, hF⟩ : ∃ F : Nat → Bt, ∀ r, r < cat n → m_tree_at 16 [.fz (.int (n : Nat)), .fz (.int (r : Nat))] = some (.fz (eb (F r)), [none, none]) ∧ (F r).sz = n :=
    ⟨fun r => Classical.choose (hx r), fun r => Classical.choose_spec (hx r)⟩
  refine ⟨(List.range (cat n)).map F, ?_, by simp, fun t ht => ?_⟩
  · have c1 := catalan_ok n h
    have hcl := cat_le n
    have hr : Dv.inR ((cat n : Nat) : Int) = true := inRn (by omega)
    have hz : ((cat n : Nat) : Int).toNat = cat n := by omega
    have hb : Dv.inR 0 = true := rfl
    have h0 : (0 : Int) ≤ ((n : Nat) : Int) := by omega
    have h7 : ((n : Nat) : Int) ≤ 7 := by omega
    have hbt : m_is_between [.fz (.int (n : Nat)), .fz (.int 0), .fz (.int 7)] = some (.fz (.bl true), [none, none, none]) := by
      have hi : m_is_integer [.fz (.int (n : Nat))] = some (.fz (.bl true), [none]) := by exists y_is_integer, e_is_integer
      exists y_is_between, e_is_between, hi, h0, h7
    have hcm : fCompL g_binaries_1 fYes v_binaries_2 [1] (rgD 0 (cat n)) [] [some (.fz (.int (n : Nat))), none] = some (((List.range (cat n)).map fun r => eb (F r)).map M.fz, [some (.fz (.int (n : Nat))), none]) := by
      rw [rgD0, ← mapmB (List.range (cat n)) fun r => eb (F r)]
      refine comp_al (fun i : Nat => D.int (i : Nat)) (fun r => .fz (eb (F r))) _ (by simp; omega) fun r hr => ?_
      have hrl : r < cat n := by simpa using hr
      obtain ⟨e, z⟩ := hF r hrl
      refine ⟨[some (.fz (.int (n : Nat))), some (.fz (.int (r : Nat)))], [some (.fz (.int (n : Nat))), some (.fz (.int (r : Nat)))], ?_, ?_, ?_⟩
      · exists g_binaries_1
      · exists v_binaries_2, e
      · exists gB_t
    exists y_binaries, e_binaries, hbt, c1, hr, hz, hcm
    simp [List.map_map, Function.comp_def]
  · obtain ⟨r, hr, rfl⟩ := List.mem_map.mp ht
    exact (hF r (by simpa using hr)).2
end Lk29

set_option Elab.async false
set_option linter.all false
set_option maxRecDepth 100000
set_option maxHeartbeats 4000000
namespace Lk29
open PySem PySem.Spec PyProof.Rows L2 Dv
local macro_rules
  | `(tactic| exists $es:term,*) => `(tactic| simp (config := { implicitDefEqProofs := false }) only [$[$es:term],*, gB_t, fC_e, kV_0, kV_1, kV_2, fV_e, kFzA_0, kFz_0, kFz_1, fFz_e, kMvA_0, kMv_0, kMv_1, fMv_e, look_v, kJ_0, look_a, kO_0, kBin3b_0, kBin3_0, kBin2_0, kBin1_0, fBin_e, kTst_0, fTst_e, kCons2_0, kCons1_0, fCons_e, fNil_e, kLooks2_0, kLooks_0, looks_n, looks_c, kCall2_0, kCall1_0, fCall_e, kAf_0, allFz_n, allFz_c, kOwn_0, owns_n, owns_c, kTup2_0, kTup_0, fTup_e, kLst2_0, kLst_0, fLst_e, kAnd_0, kAnd_1, kOr_0, kOr_1, kNot_0, fAnd_e, fOr_e, fNot_e, kTru3_0, kTru2_0, kTru_0, fTru_e, kAndV_0, kAndV_1, kOrV_0, kOrV_1, kNotV_0, fAndV_e, fOrV_e, fNotV_e, kIfE_0, kIfE_1, fIf_e, kSeq_0, kSeq_1, kSeq_2, kSeq_3, fSeq_e, fPass_e, fRetN_e, fBreak_e, fCont_e, kExpr_0, fExpr_e, kRet_0, fRet_e, kIf_0, kIf_1, fIfS_e, kNx_0, kAsg_0, fAsg_e, gN_e, kPar_0, gPar_e, kPar3_0, gPar3_e, gTupl_e, gsNil_e, kGs_0, gsCons_e, gmNil_e, kGm_0, gmCons_e, kUnp2_0, kUnp_0, fUnp_e, kSet4_0, kSet3_0, kSet2_0, kSet1_0, gSet_e, kIsO_0, kMt6_0, kMt5_0, kMt4_0, kMt3_0, kMt2_0, kMt1_0, fMt_e, kCF3_0, kCF2_0, kCF1_0, fCallF_e, kLd_0, kLdA_0, lend_n, lend_v, lend_a, back_n, back_v, back_a, kPk2_0, kPk_0, pick_n, pick_c, kCK5_0, kCK4_0, kCK3_0, kCK2_0, kCK1_0, fCallK_e, kCh4_0, kCh3_0, kCh3_1, kCh2_0, kCh1_0, fCh_e, kSl4_0, kSl3_0, kSl2_0, kSl1_0, fSl_e, fONone_e, kOS_0, fOSome_e, kNeg_0, fNeg_e, kRl3_0, kRl2_0, kRl1_0, fRevL_e, kIsi2_0, kIsi1_0, fIsi_e, kIsj2_0, kIsj1_0, fIsi2_e, kR1_0, fR1_e, kR2b_0, kR2_0, fR2_e, kLRg_0, fLRg_e, kTRg_0, fTRg_e, kFor_0, fFor_e, kSI2_0, kSI1_0, fSeqI_e, kRg1_0, fRg1_e, kRg2_0, fRg2_e, kRg3_0, fRg3_e, kEn2_0, kEn1_0, fEnum_e, kEa1_0, fEnumA_e, kId2_0, kId1_0, fIdx_e, kCm2_0, kCm1_0, fComp_e, kCm1b_0, fComp2_e, wipe_n, wipe_c, fYes_e, kLs4_0, kLs3_0, kLs2_0, kLs1_0, fLenSet_e, kFn_0, kFn_1, cN_n, cN_c, oC_t, oC_f, oL_0, oL_1, outs_o, cK_n, cK_c, cond_true, cond_false, fnG_e, kW2_0, kW2_1, kW2_2, kW2_3, kW1_0, kW1_1, kL2_0, kL2_1, kL2_2, kL2_3, kL1_0, kC4_0, isi_NoneType_bool, isi_NoneType_int, isi_NoneType_str, isi_NoneType_tuple, isi_NoneType_list, isi_NoneType_dict, isi_bool_bool, isi_bool_int, isi_bool_str, isi_bool_tuple, isi_bool_list, isi_bool_dict, isi_int_bool, isi_int_int, isi_int_str, isi_int_tuple, isi_int_list, isi_int_dict, isi_str_bool, isi_str_int, isi_str_str, isi_str_tuple, isi_str_list, isi_str_dict, isi_tuple_bool, isi_tuple_int, isi_tuple_str, isi_tuple_tuple, isi_tuple_list, isi_tuple_dict, isi_list_bool, isi_list_int, isi_list_str, isi_list_tuple, isi_list_list, isi_list_dict, isi_dict_bool, isi_dict_int, isi_dict_str, isi_dict_tuple, isi_dict_list, isi_dict_dict, ex_m, nt_m, nl_m, frz_fz, frz_ow, s1_e, s2_e, sAdd_i, sSub_i, sMul_i, sDiv_i, sMod_i, sPow_i, sLt_i, sLe_i, sGt_i, sGe_i, nB_t, nB_f, sIs_n, sIs_b, isN_n, isN_t, isN_l, isN_r, isN_i, isN_b, isN_s, isN_o, sEq_i, sEq_b, sEq_o, sEq_l, sEq_t, sIn_te, sIn_le, kEx_0, sIx_t, sIx_l, sIx_r, kIx_0, sIx_o, unfz_n, unfz_c, unfz_m, at_0, at_1, at_2, at_3, gLen_t, gLen_l, gLen_r, gLen_o, gInt_i, gInt_b, gAbs_i, gMax2_i, gMin2_i, gList_t, gList_l, gTuple_l, gTuple_o, gTuple_t, isLs_o, isLs_l, isLs_r, tru_b, tru_i, sApp_e, sExt_t, sExt_l, ty_int, ty_bl, ty_non, ty_str, ty_tup, ty_lst, ty_rol, ty_ow, seqOf_l, seqOf_t, seqOf_r, frzs_fz, Dv.M.frz, Dv.M.frzs, List.getElem?_cons_zero, List.getElem?_cons_succ, List.set_cons_zero, List.set_cons_succ, List.map_cons, List.map_nil, List.replicate_succ, List.replicate_zero, List.cons_append, List.nil_append, List.append_nil, List.length_cons, List.length_nil, List.length_map, List.length_set, Nat.zero_add, Nat.add_zero, decide_true, decide_false, and_self, Bool.not_true, Bool.not_false, Bool.or_true, Bool.true_or, Bool.or_false, Bool.false_or, Bool.and_true, Bool.true_and, Bool.and_false, Bool.false_and, Nat.lt_add_left_iff_pos, Nat.zero_lt_succ, true_and, and_true, Nat.le_refl, Nat.lt_irrefl, List.isEmpty_nil, List.isEmpty_cons, Nat.reduceAdd, Nat.reduceSub, Nat.reduceLeDiff, Nat.reduceLT, Nat.reduceBEq, Nat.reduceEqDiff, Nat.reduceMul, Int.reduceNeg, Nat.le_add_left])
/-! ### treebench.balance: stretches, heights -/
theorem mxn (i j : Nat) : (if ((j : Nat) : Int) > ((i : Nat) : Int) then ((j : Nat) : Int) else ((i : Nat) : Int)) = ((max i j : Nat) : Int) := by
  by_cases h : j > i
  · rw [if_pos (by omega), Nat.max_eq_right (by omega)]
  · rw [if_neg (by omega), Nat.max_eq_left (by omega)]
theorem mnn (i j : Nat) : (if ((j : Nat) : Int) < ((i : Nat) : Int) then ((j : Nat) : Int) else ((i : Nat) : Int)) = ((min i j : Nat) : Int) := by
  by_cases h : j < i
  · rw [if_pos (by omega), Nat.min_eq_right (by omega)]
  · rw [if_neg (by omega), Nat.min_eq_left (by omega)]
theorem on1 (i : Nat) : (1 : Int) + ((i : Nat) : Int) = ((1 + i : Nat) : Int) := by omega
theorem ad1 (i : Nat) : ((i : Nat) : Int) + 1 = ((i + 1 : Nat) : Int) := by omega
theorem adn (i j : Nat) : ((i : Nat) : Int) + ((j : Nat) : Int) = ((i + j : Nat) : Int) := by omega
theorem kIf_b (fs gs : FS) (c : Bool) (ρ : Ev) : kIf fs gs (some (c, ρ)) = if c = true then fs ρ else gs ρ := by cases c <;> rfl
theorem heightin_ok : ∀ (t : Bt) (k : Nat), t.dep < k → m_height_in k [.fz (eb t)] = some (.fz (.int (t.ht : Nat)), [none]) := by
  intro t
  induction t with
  | nil =>
    intro k h
    cases k with
    | zero => simp [Bt.dep] at h
    | succ k => exists y_height_in, e_height_in, eb_0, Bt.ht; rfl
  | nd l r ihl ihr =>
    intro k h
    cases k with
    | zero => simp [Bt.dep] at h
    | succ k =>
      have hl := ihl k (dq0 h).1
      have hr := ihr k (dq0 h).2
      exists y_height_in, e_height_in, eb_1, Bt.ht, hl, hr, mxn, on1
def es (x : Nat × Bt × Bt) : D := .tup [.int (x.1 : Nat), eb x.2.1, eb x.2.2]
theorem stretches_ok : ∀ (t : Bt) (k f : Nat), t.dep < k → t.sz ≤ 400 → m_stretches_of k [.fz (eb t), .fz (.int (f : Nat))] = some (.fz (.lst ((t.str f).map es)), [none, none]) := by
  intro t
  induction t with
  | nil =>
    intro k f h _
    cases k with
    | zero => simp [Bt.dep] at h
    | succ k => exists y_stretches_of, e_stretches_of, eb_0, Bt.str
  | nd l r ihl ihr =>
    intro k f h hz
    cases k with
    | zero => simp [Bt.dep] at h
    | succ k =>
      simp only [Bt.sz] at hz
      have hl := ihl k f (dq0 h).1 (by omega)
      have hr := ihr k (f + l.sz + 1) (dq0 h).2 (by omega)
      have hs := sizeof_ok l (by omega)
      have l1 := l.str_len f
      have l2 := r.str_len (f + l.sz + 1)
      obtain ⟨o1, q1⟩ : ∃ o1, o1 = (l.str f).map es ∧ o1.length ≤ 400 := ⟨_, rfl, by simp; omega⟩
      have a1 := sAdd_fo o1 [.tup [.int ((f + l.sz : Nat) : Int), eb l, eb r]] (by simp; omega)
      have a2 := sAdd_of (o1 ++ [.tup [.int ((f + l.sz : Nat) : Int), eb l, eb r]]) ((r.str (f + l.sz + 1)).map es) (by simp; omega)
      rw [← q1.1] at hl
      simp only [List.map_cons, List.map_nil] at a1
      have hx : ((Bt.nd l r).str f).map es = o1 ++ [.tup [.int ((f + l.sz : Nat) : Int), eb l, eb r]] ++ (r.str (f + l.sz + 1)).map es := by
        rw [q1.1]; simp [Bt.str, es]
      rw [hx]
      exists y_stretches_of, e_stretches_of, eb_1, hs, hl, hr, adn, ad1, a1, a2
/-- the law's own list of subtrees -/
theorem lnodes_ok : ∀ (t : Bt) (k : Nat), t.dep < k → t.sz ≤ 400 → m__law_nodes k [.fz (eb t)] = some (.fz (.lst (t.nds.map eb)), [none]) := by
  intro t
  induction t with
  | nil =>
    intro k h _
    cases k with
    | zero => simp [Bt.dep] at h
    | succ k => exists y__law_nodes, e__law_nodes, eb_0, Bt.nds
  | nd l r ihl ihr =>
    intro k h hz
    cases k with
    | zero => simp [Bt.dep] at h
    | succ k =>
      simp only [Bt.sz] at hz
      have hl := ihl k (dq0 h).1 (by omega)
      have hr := ihr k (dq0 h).2 (by omega)
      have l1 := l.nds_len
      have l2 := r.nds_len
      obtain ⟨o1, q1⟩ : ∃ o1, o1 = l.nds.map eb ∧ o1.length ≤ 400 := ⟨_, rfl, by simp; omega⟩
      have a1 := sAdd_fo o1 [eb (.nd l r)] (by simp; omega)
      have a2 := sAdd_of (o1 ++ [eb (.nd l r)]) (r.nds.map eb) (by simp; omega)
      rw [← q1.1] at hl
      simp only [List.map_cons, List.map_nil] at a1
      have hx : (Bt.nd l r).nds.map eb = o1 ++ [eb (.nd l r)] ++ r.nds.map eb := by
        rw [q1.1]; simp [Bt.nds]
      rw [hx]
      simp only [eb_1] at a1 a2 ⊢
      exists y__law_nodes, e__law_nodes, hl, hr, a1, a2
/-- uneven_node -/
theorem absgt (a b : Nat) : decide ((1 : Int) < (if ((a : Nat) : Int) - ((b : Nat) : Int) < 0 then -(((a : Nat) : Int) - ((b : Nat) : Int)) else ((a : Nat) : Int) - ((b : Nat) : Int))) = decide (a + 1 < b ∨ b + 1 < a) := by
  by_cases h : ((a : Nat) : Int) - ((b : Nat) : Int) < 0
  · rw [if_pos h]
    by_cases c : a + 1 < b
    · rw [decide_eq_true (by omega), decide_eq_true (by omega)]
    · rw [decide_eq_false (by omega), decide_eq_false (by omega)]
  · rw [if_neg h]
    by_cases c : b + 1 < a
    · rw [decide_eq_true (by omega), decide_eq_true (by omega)]
    · rw [decide_eq_false (by omega), decide_eq_false (by omega)]
theorem absune (l r : Bt) : decide ((1 : Int) < (if ((l.ht : Nat) : Int) - ((r.ht : Nat) : Int) < 0 then -(((l.ht : Nat) : Int) - ((r.ht : Nat) : Int)) else ((l.ht : Nat) : Int) - ((r.ht : Nat) : Int))) = Bt.une (.nd l r) := by
  rw [absgt]
  unfold Bt.une
  simp only [Bt.lft, Bt.rgt]
  congr
def onD : Option Nat → D
  | none => .non
  | some i => .int (i : Nat)
theorem onD_0 : onD none = .non := rfl
theorem onD_1 (i : Nat) : onD (some i) = .int (i : Nat) := rfl
theorem head_find {α : Type} (p : α → Bool) : ∀ l : List α, (l.filter p).head? = l.find? p
  | [] => rfl
  | a :: l => by
    rw [List.filter_cons, List.find?_cons]
    cases p a <;> simp [head_find p l]
theorem str_find (q : Bt → Bool) (t : Bt) : (((t.str 0).filter fun x => q (.nd x.2.1 x.2.2)).head?).map (·.1) = Bt.fst q t := by
  rw [head_find, Bt.str_zip]
  have e : ∀ l : List (Bt × Nat), (∀ x ∈ l, ∃ a b, x.1 = .nd a b) → ((l.map fun x => (x.2, x.1.lft, x.1.rgt)).find? fun x => q (.nd x.2.1 x.2.2)).map (·.1) = (l.find? fun x => q x.1).map (·.2) := by
    intro l
    induction l with
    | nil => intro _; rfl
    | cons x l ih =>
      intro h
      obtain ⟨a, b, hx⟩ := h x List.mem_cons_self
      rw [List.map_cons, List.find?_cons, List.find?_cons, hx]
      simp only [Bt.lft, Bt.rgt]
      cases q (.nd a b) with
      | true => rfl
      | false => exact ih fun y hy => h y (List.mem_cons_of_mem _ hy)
  rw [e _ fun x hx => Bt.nds_nd t x.1 ?_]
  · rw [Bt.find_zip]; unfold Bt.fst; simp
  · have := (List.mem_zipIdx' (x := x.1) (i := x.2) hx)
    rw [this.2]; exact List.getElem_mem _
theorem uneven_ok (t : Bt) (h : t.sz ≤ 12) : m_uneven_node [.fz (eb t)] = some (.fz (onD (Bt.fst Bt.une t)), [none]) := by
  have hk := check_ok t h
  have hs := stretches_ok t 16 0 (by have := t.dep_le; omega) (by omega)
  have hs : m_stretches_of 16 [.fz (eb t), .fz (.int 0)] = some (.fz (.lst ((t.str 0).map es)), [none, none]) := hs
  have hf := str_find Bt.une t
  have hl := t.str_len 0
  have hc : fCompL g_uneven_node_1 t_uneven_node_2 v_uneven_node_3 [2, 3, 4] ((t.str 0).map es) [] [some (.fz (eb t)), none, none, none, none] = some ((((t.str 0).filter fun x => Bt.une (.nd x.2.1 x.2.2)).map fun x => M.fz (.int (x.1 : Nat))), [some (.fz (eb t)), none, none, none, none]) := by
    refine comp_alf es _ _ _ (by omega) fun x hx => ?_
    have hz := t.str_sz 0 x hx
    have h1 := heightin_ok x.2.1 16 (by have := x.2.1.dep_le; omega)
    have h2 := heightin_ok x.2.2 16 (by have := x.2.2.dep_le; omega)
    refine ⟨[some (.fz (eb t)), none, some (.fz (.int (x.1 : Nat))), some (.fz (eb x.2.1)), some (.fz (eb x.2.2))], [some (.fz (eb t)), none, some (.fz (.int (x.1 : Nat))), some (.fz (eb x.2.1)), some (.fz (eb x.2.2))], ?_, ?_, fun _ => ?_, fun _ => ⟨[some (.fz (eb t)), none, some (.fz (.int (x.1 : Nat))), some (.fz (eb x.2.1)), some (.fz (eb x.2.2))], ?_, ?_⟩⟩
    · exists g_uneven_node_1, es
    · exists t_uneven_node_2, h1, h2, absune
    · exists gB_t
    · exists v_uneven_node_3
    · exists gB_t
  rw [mapmB _ fun x : Nat × Bt × Bt => D.int (x.1 : Nat)] at hc
  generalize ((t.str 0).filter fun x => Bt.une (.nd x.2.1 x.2.2)) = l at hc hf
  cases l with
  | nil =>
    rw [← hf]
    simp only [List.map_nil] at hc
    exists y_uneven_node, e_uneven_node, hk, hs, hc, List.head?_nil, Option.map_none, onD_0
  | cons x l =>
    rw [← hf]
    simp only [List.map_cons] at hc
    exists y_uneven_node, e_uneven_node, hk, hs, hc, List.head?_cons, Option.map_some, onD_1
end Lk29

set_option Elab.async false
set_option linter.all false
set_option maxRecDepth 100000
set_option maxHeartbeats 4000000
namespace Lk29
open PySem PySem.Spec PyProof.Rows L2 Dv
local macro_rules
  | `(tactic| exists $es:term,*) => `(tactic| simp (config := { implicitDefEqProofs := false }) only [$[$es:term],*, gB_t, fC_e, kV_0, kV_1, kV_2, fV_e, kFzA_0, kFz_0, kFz_1, fFz_e, kMvA_0, kMv_0, kMv_1, fMv_e, look_v, kJ_0, look_a, kO_0, kBin3b_0, kBin3_0, kBin2_0, kBin1_0, fBin_e, kTst_0, fTst_e, kCons2_0, kCons1_0, fCons_e, fNil_e, kLooks2_0, kLooks_0, looks_n, looks_c, kCall2_0, kCall1_0, fCall_e, kAf_0, allFz_n, allFz_c, kOwn_0, owns_n, owns_c, kTup2_0, kTup_0, fTup_e, kLst2_0, kLst_0, fLst_e, kAnd_0, kAnd_1, kOr_0, kOr_1, kNot_0, fAnd_e, fOr_e, fNot_e, kTru3_0, kTru2_0, kTru_0, fTru_e, kAndV_0, kAndV_1, kOrV_0, kOrV_1, kNotV_0, fAndV_e, fOrV_e, fNotV_e, kIfE_0, kIfE_1, fIf_e, kSeq_0, kSeq_1, kSeq_2, kSeq_3, fSeq_e, fPass_e, fRetN_e, fBreak_e, fCont_e, kExpr_0, fExpr_e, kRet_0, fRet_e, kIf_0, kIf_1, fIfS_e, kNx_0, kAsg_0, fAsg_e, gN_e, kPar_0, gPar_e, kPar3_0, gPar3_e, gTupl_e, gsNil_e, kGs_0, gsCons_e, gmNil_e, kGm_0, gmCons_e, kUnp2_0, kUnp_0, fUnp_e, kSet4_0, kSet3_0, kSet2_0, kSet1_0, gSet_e, kIsO_0, kMt6_0, kMt5_0, kMt4_0, kMt3_0, kMt2_0, kMt1_0, fMt_e, kCF3_0, kCF2_0, kCF1_0, fCallF_e, kLd_0, kLdA_0, lend_n, lend_v, lend_a, back_n, back_v, back_a, kPk2_0, kPk_0, pick_n, pick_c, kCK5_0, kCK4_0, kCK3_0, kCK2_0, kCK1_0, fCallK_e, kCh4_0, kCh3_0, kCh3_1, kCh2_0, kCh1_0, fCh_e, kSl4_0, kSl3_0, kSl2_0, kSl1_0, fSl_e, fONone_e, kOS_0, fOSome_e, kNeg_0, fNeg_e, kRl3_0, kRl2_0, kRl1_0, fRevL_e, kIsi2_0, kIsi1_0, fIsi_e, kIsj2_0, kIsj1_0, fIsi2_e, kR1_0, fR1_e, kR2b_0, kR2_0, fR2_e, kLRg_0, fLRg_e, kTRg_0, fTRg_e, kFor_0, fFor_e, kSI2_0, kSI1_0, fSeqI_e, kRg1_0, fRg1_e, kRg2_0, fRg2_e, kRg3_0, fRg3_e, kEn2_0, kEn1_0, fEnum_e, kEa1_0, fEnumA_e, kId2_0, kId1_0, fIdx_e, kCm2_0, kCm1_0, fComp_e, kCm1b_0, fComp2_e, wipe_n, wipe_c, fYes_e, kLs4_0, kLs3_0, kLs2_0, kLs1_0, fLenSet_e, kFn_0, kFn_1, cN_n, cN_c, oC_t, oC_f, oL_0, oL_1, outs_o, cK_n, cK_c, cond_true, cond_false, fnG_e, kW2_0, kW2_1, kW2_2, kW2_3, kW1_0, kW1_1, kL2_0, kL2_1, kL2_2, kL2_3, kL1_0, kC4_0, isi_NoneType_bool, isi_NoneType_int, isi_NoneType_str, isi_NoneType_tuple, isi_NoneType_list, isi_NoneType_dict, isi_bool_bool, isi_bool_int, isi_bool_str, isi_bool_tuple, isi_bool_list, isi_bool_dict, isi_int_bool, isi_int_int, isi_int_str, isi_int_tuple, isi_int_list, isi_int_dict, isi_str_bool, isi_str_int, isi_str_str, isi_str_tuple, isi_str_list, isi_str_dict, isi_tuple_bool, isi_tuple_int, isi_tuple_str, isi_tuple_tuple, isi_tuple_list, isi_tuple_dict, isi_list_bool, isi_list_int, isi_list_str, isi_list_tuple, isi_list_list, isi_list_dict, isi_dict_bool, isi_dict_int, isi_dict_str, isi_dict_tuple, isi_dict_list, isi_dict_dict, ex_m, nt_m, nl_m, frz_fz, frz_ow, s1_e, s2_e, sAdd_i, sSub_i, sMul_i, sDiv_i, sMod_i, sPow_i, sLt_i, sLe_i, sGt_i, sGe_i, nB_t, nB_f, sIs_n, sIs_b, isN_n, isN_t, isN_l, isN_r, isN_i, isN_b, isN_s, isN_o, sEq_i, sEq_b, sEq_o, sEq_l, sEq_t, sIn_te, sIn_le, kEx_0, sIx_t, sIx_l, sIx_r, kIx_0, sIx_o, unfz_n, unfz_c, unfz_m, at_0, at_1, at_2, at_3, gLen_t, gLen_l, gLen_r, gLen_o, gInt_i, gInt_b, gAbs_i, gMax2_i, gMin2_i, gList_t, gList_l, gTuple_l, gTuple_o, gTuple_t, isLs_o, isLs_l, isLs_r, tru_b, tru_i, sApp_e, sExt_t, sExt_l, ty_int, ty_bl, ty_non, ty_str, ty_tup, ty_lst, ty_rol, ty_ow, seqOf_l, seqOf_t, seqOf_r, frzs_fz, Dv.M.frz, Dv.M.frzs, List.getElem?_cons_zero, List.getElem?_cons_succ, List.set_cons_zero, List.set_cons_succ, List.map_cons, List.map_nil, List.replicate_succ, List.replicate_zero, List.cons_append, List.nil_append, List.append_nil, List.length_cons, List.length_nil, List.length_map, List.length_set, Nat.zero_add, Nat.add_zero, decide_true, decide_false, and_self, Bool.not_true, Bool.not_false, Bool.or_true, Bool.true_or, Bool.or_false, Bool.false_or, Bool.and_true, Bool.true_and, Bool.and_false, Bool.false_and, Nat.lt_add_left_iff_pos, Nat.zero_lt_succ, true_and, and_true, Nat.le_refl, Nat.lt_irrefl, List.isEmpty_nil, List.isEmpty_cons, Nat.reduceAdd, Nat.reduceSub, Nat.reduceLeDiff, Nat.reduceLT, Nat.reduceBEq, Nat.reduceEqDiff, Nat.reduceMul, Int.reduceNeg, Nat.le_add_left])
theorem ways_ok : ∀ (t : Bt) (k : Nat), t.dep < k → m__law_ways k [.fz (eb t)] = some (.fz (.tup [.int (t.ht : Nat), .int (t.lo : Nat)]), [none]) := by
  intro t
  induction t with
  | nil =>
    intro k h
    cases k with
    | zero => simp [Bt.dep] at h
    | succ k => exists y__law_ways, e__law_ways, eb_0, Bt.ht, Bt.lo; rfl
  | nd l r ihl ihr =>
    intro k h
    cases k with
    | zero => simp [Bt.dep] at h
    | succ k =>
      have hl := ihl k (dq0 h).1
      have hr := ihr k (dq0 h).2
      exists y__law_ways, e__law_ways, eb_1, Bt.ht, Bt.lo, hl, hr, mxn, mnn, on1
theorem shortest_ok : ∀ (t : Bt) (k : Nat), t.dep < k → m_shortest_in k [.fz (eb t)] = some (.fz (.int (t.lo : Nat)), [none]) := by
  intro t
  induction t with
  | nil =>
    intro k h
    cases k with
    | zero => simp [Bt.dep] at h
    | succ k => exists y_shortest_in, e_shortest_in, eb_0, Bt.lo; rfl
  | nd l r ihl ihr =>
    intro k h
    cases k with
    | zero => simp [Bt.dep] at h
    | succ k =>
      have hl := ihl k (dq0 h).1
      have hr := ihr k (dq0 h).2
      exists y_shortest_in, e_shortest_in, eb_1, Bt.lo, hl, hr, mnn, on1
theorem nodesin_ok : ∀ (t : Bt) (k : Nat), t.dep < k → m_nodes_in k [.fz (eb t)] = some (.fz (.int (t.sz : Nat)), [none]) := by
  intro t
  induction t with
  | nil =>
    intro k h
    cases k with
    | zero => simp [Bt.dep] at h
    | succ k => exists y_nodes_in, e_nodes_in, eb_0, Bt.sz; rfl
  | nd l r ihl ihr =>
    intro k h
    cases k with
    | zero => simp [Bt.dep] at h
    | succ k =>
      have hl := ihl k (dq0 h).1
      have hr := ihr k (dq0 h).2
      exists y_nodes_in, e_nodes_in, eb_1, Bt.sz, hl, hr, adn, on1
/-! the law's uneven -/
theorem luneven_ok (t : Bt) (h : t.sz ≤ 12) : m__law_uneven [.fz (eb t)] = some (.fz (.bl (t.nds.any Bt.une)), [none]) := by
  have hn := lnodes_ok t 16 (by have := t.dep_le; omega) (by omega)
  have hl := t.nds_len
  have hc : fCompL g__law_uneven_1 t__law_uneven_2 v__law_uneven_3 [1] (t.nds.map eb) [] [some (.fz (eb t)), none] = some (((t.nds.filter Bt.une).map fun s => M.fz (eb s)), [some (.fz (eb t)), none]) := by
    refine comp_alf eb _ _ _ (by omega) fun s hs => ?_
    obtain ⟨l, r, rfl⟩ := t.nds_nd s hs
    have hz := t.nds_sz _ hs
    simp only [Bt.sz] at hz
    have h1 := ways_ok l 16 (by have := l.dep_le; omega)
    have h2 := ways_ok r 16 (by have := r.dep_le; omega)
    refine ⟨[some (.fz (eb t)), some (.fz (eb (.nd l r)))], [some (.fz (eb t)), some (.fz (eb (.nd l r)))], ?_, ?_, fun _ => ?_, fun _ => ⟨[some (.fz (eb t)), some (.fz (eb (.nd l r)))], ?_, ?_⟩⟩
    · exists g__law_uneven_1
    · exists t__law_uneven_2, eb_1, h1, h2, absune
    · exists gB_t
    · exists v__law_uneven_3
    · exists gB_t
  have hany : ((t.nds.filter Bt.une).map fun s => M.fz (eb s)).isEmpty = !t.nds.any Bt.une := by
    generalize t.nds = l
    induction l with
    | nil => rfl
    | cons a l ih =>
      rw [List.filter_cons, List.any_cons]
      cases Bt.une a with
      | true => rfl
      | false => simpa using ih
  generalize ((t.nds.filter Bt.une).map fun s => M.fz (eb s)) = L at hc hany
  cases hb : t.nds.any Bt.une with
  | true =>
    rw [hb] at hany
    have hany : L.isEmpty = false := hany
    exists y__law_uneven, e__law_uneven, hn, hc, hany
  | false =>
    rw [hb] at hany
    have hany : L.isEmpty = true := hany
    exists y__law_uneven, e__law_uneven, hn, hc, hany
/-! the first node too high -/
theorem badT (l r : Bt) : decide ((2 : Int) * ((1 + min l.lo r.lo : Nat) : Int) < ((1 + max l.ht r.ht : Nat) : Int)) = Bt.bad (.nd l r) := by
  by_cases c : 2 * (1 + min l.lo r.lo) < 1 + max l.ht r.ht
  · have h : Bt.bad (.nd l r) = true := decide_eq_true c
    rw [h, decide_eq_true (by omega)]
  · have h : Bt.bad (.nd l r) = false := decide_eq_false c
    rw [h, decide_eq_false (by omega)]
theorem okM2 (i : Nat) : okMul (2 : Int) ((i : Nat) : Int) = true := okMul_l (by decide)
theorem fault_loop (B : Option M) : ∀ (l : List (Nat × Bt × Bt)) (a b c : Option M), (∀ x ∈ l, x.2.1.sz ≤ 12 ∧ x.2.2.sz ≤ 12) →
    (∃ a' b' c', fLoop g_fault_of_1 l_fault_of_2 (l.map es) [B, a, b, c] = some (.nx [B, a', b', c']) ∧ (l.find? fun x => Bt.bad (.nd x.2.1 x.2.2)) = none) ∨
    (∃ i ρ, fLoop g_fault_of_1 l_fault_of_2 (l.map es) [B, a, b, c] = some (.rt (.fz (.int (i : Nat))) (B :: ρ)) ∧ ((l.find? fun x => Bt.bad (.nd x.2.1 x.2.2)).map (·.1)) = some i)
  | [], a, b, c, _ => .inl ⟨a, b, c, rfl, rfl⟩
  | x :: l, a, b, c, h => by
    have h1 := heightin_ok x.2.1 16 (by have := (h x List.mem_cons_self).1; have := x.2.1.dep_le; omega)
    have h2 := heightin_ok x.2.2 16 (by have := (h x List.mem_cons_self).2; have := x.2.2.dep_le; omega)
    have h3 := shortest_ok x.2.1 16 (by have := (h x List.mem_cons_self).1; have := x.2.1.dep_le; omega)
    have h4 := shortest_ok x.2.2 16 (by have := (h x List.mem_cons_self).2; have := x.2.2.dep_le; omega)
    have hg : g_fault_of_1 (.fz (es x)) [B, a, b, c] = some [B, some (.fz (.int (x.1 : Nat))), some (.fz (eb x.2.1)), some (.fz (eb x.2.2))] := by
      exists g_fault_of_1, es
    have hb := badT x.2.1 x.2.2
    rw [List.map_cons, List.find?_cons]
    cases hc : Bt.bad (.nd x.2.1 x.2.2) with
    | true =>
      rw [hc] at hb
      refine .inr ⟨x.1, [some (.fz (.int (x.1 : Nat))), some (.fz (eb x.2.1)), some (.fz (eb x.2.2))], ?_, rfl⟩
      refine loop_rt hg (m := .fz (.int (x.1 : Nat))) (ρ2 := [B, some (.fz (.int (x.1 : Nat))), some (.fz (eb x.2.1)), some (.fz (eb x.2.2))]) ?_
      exists l_fault_of_2, h1, h2, h3, h4, mxn, mnn, on1, okM2, hb
    | false =>
      rw [hc] at hb
      have hs : l_fault_of_2 [B, some (.fz (.int (x.1 : Nat))), some (.fz (eb x.2.1)), some (.fz (eb x.2.2))] = some (.nx [B, some (.fz (.int (x.1 : Nat))), some (.fz (eb x.2.1)), some (.fz (eb x.2.2))]) := by
        exists l_fault_of_2, h1, h2, h3, h4, mxn, mnn, on1, okM2, hb
      rw [loop_go hg hs]
      exact fault_loop B l _ _ _ fun y hy => h y (List.mem_cons_of_mem _ hy)
theorem fault_ok (t : Bt) (h : t.sz ≤ 12) : m_fault_of [.fz (eb t)] = some (.fz (onD t.flt), [none]) := by
  have hs := stretches_ok t 16 0 (by have := t.dep_le; omega) (by omega)
  have hs : m_stretches_of 16 [.fz (eb t), .fz (.int 0)] = some (.fz (.lst ((t.str 0).map es)), [none, none]) := hs
  have hf := str_find Bt.bad t
  rw [head_find] at hf
  have hz : ∀ x ∈ t.str 0, x.2.1.sz ≤ 12 ∧ x.2.2.sz ≤ 12 := fun x hx => by have := t.str_sz 0 x hx; omega
  rcases fault_loop (some (.fz (eb t))) (t.str 0) none none none hz with ⟨a, b, c, e, q⟩ | ⟨i, ρ, e, q⟩
  · rw [q] at hf
    have hf : t.flt = none := hf.symm
    rw [hf, onD_0]
    exists y_fault_of, e_fault_of, hs, e
  · rw [q] at hf
    have hf : t.flt = some i := hf.symm
    rw [hf, onD_1]
    exists y_fault_of, e_fault_of, hs, e
theorem break_ok (t : Bt) (h : t.sz ≤ 12) : m_color_break [.fz (eb t)] = some (.fz (onD t.flt), [none]) := by
  have hk := check_ok t h
  have hf := fault_ok t h
  exists y_color_break, e_color_break, hk, hf
/-- the numbers of black nodes that can be -/
def nmb (t : Bt) : List D := match t.flt with
  | none => rgD (((t.ht + 1) / 2 : Nat) : Int) (t.lo + 1 - (t.ht + 1) / 2)
  | some _ => []
theorem half1 (t : Bt) : ((t.ht + 1 : Nat) : Int) / 2 = (((t.ht + 1) / 2 : Nat) : Int) := by omega
theorem rgN (a b : Nat) : (((b : Nat) : Int) - ((a : Nat) : Int)).toNat = b - a := by omega
theorem numbers_ok (t : Bt) (h : t.sz ≤ 12) : m_numbers_of [.fz (eb t)] = some (.fz (.lst (nmb t)), [none]) := by
  have hf := fault_ok t h
  have h1 := heightin_ok t 16 (by have := t.dep_le; omega)
  have h2 := shortest_ok t 16 (by have := t.dep_le; omega)
  unfold nmb
  cases hc : t.flt with
  | some i =>
    rw [hc, onD_1] at hf
    exists y_numbers_of, e_numbers_of, hf
  | none =>
    rw [hc, onD_0] at hf
    have b1 := t.lo_ht
    have b2 := t.ht_sz
    have i1 : inR2 (((t.ht + 1) / 2 : Nat) : Int) ((t.lo + 1 : Nat) : Int) = true := by unfold inR2; simp; omega
    have hlog : (2 : Int).natAbs.log2 < 9000 := by decide +kernel
    have z2 : (0 : Int) < 2 := by decide
    have hn := rgN ((t.ht + 1) / 2) (t.lo + 1)
    have hL : (rgD (((t.ht + 1) / 2 : Nat) : Int) (t.lo + 1 - (t.ht + 1) / 2)).length ≤ 100000 := by rw [rgD_len]; omega
    exists y_numbers_of, e_numbers_of, hf, h1, h2, half1, ad1, i1, hlog, z2, hn
theorem blackh_ok (t : Bt) (h : t.sz ≤ 12) : m_black_heights [.fz (eb t)] = some (.fz (.tup (nmb t)), [none]) := by
  have hk := check_ok t h
  have hn := numbers_ok t h
  exists y_black_heights, e_black_heights, hk, hn
end Lk29

set_option Elab.async false
set_option linter.all false
set_option maxRecDepth 100000
set_option maxHeartbeats 4000000
namespace Lk29
open PySem PySem.Spec PyProof.Rows L2 Dv
local macro_rules
  | `(tactic| exists $es:term,*) => `(tactic| simp (config := { implicitDefEqProofs := false }) only [$[$es:term],*, gB_t, fC_e, kV_0, kV_1, kV_2, fV_e, kFzA_0, kFz_0, kFz_1, fFz_e, kMvA_0, kMv_0, kMv_1, fMv_e, look_v, kJ_0, look_a, kO_0, kBin3b_0, kBin3_0, kBin2_0, kBin1_0, fBin_e, kTst_0, fTst_e, kCons2_0, kCons1_0, fCons_e, fNil_e, kLooks2_0, kLooks_0, looks_n, looks_c, kCall2_0, kCall1_0, fCall_e, kAf_0, allFz_n, allFz_c, kOwn_0, owns_n, owns_c, kTup2_0, kTup_0, fTup_e, kLst2_0, kLst_0, fLst_e, kAnd_0, kAnd_1, kOr_0, kOr_1, kNot_0, fAnd_e, fOr_e, fNot_e, kTru3_0, kTru2_0, kTru_0, fTru_e, kAndV_0, kAndV_1, kOrV_0, kOrV_1, kNotV_0, fAndV_e, fOrV_e, fNotV_e, kIfE_0, kIfE_1, fIf_e, kSeq_0, kSeq_1, kSeq_2, kSeq_3, fSeq_e, fPass_e, fRetN_e, fBreak_e, fCont_e, kExpr_0, fExpr_e, kRet_0, fRet_e, kIf_0, kIf_1, fIfS_e, kNx_0, kAsg_0, fAsg_e, gN_e, kPar_0, gPar_e, kPar3_0, gPar3_e, gTupl_e, gsNil_e, kGs_0, gsCons_e, gmNil_e, kGm_0, gmCons_e, kUnp2_0, kUnp_0, fUnp_e, kSet4_0, kSet3_0, kSet2_0, kSet1_0, gSet_e, kIsO_0, kMt6_0, kMt5_0, kMt4_0, kMt3_0, kMt2_0, kMt1_0, fMt_e, kCF3_0, kCF2_0, kCF1_0, fCallF_e, kLd_0, kLdA_0, lend_n, lend_v, lend_a, back_n, back_v, back_a, kPk2_0, kPk_0, pick_n, pick_c, kCK5_0, kCK4_0, kCK3_0, kCK2_0, kCK1_0, fCallK_e, kCh4_0, kCh3_0, kCh3_1, kCh2_0, kCh1_0, fCh_e, kSl4_0, kSl3_0, kSl2_0, kSl1_0, fSl_e, fONone_e, kOS_0, fOSome_e, kNeg_0, fNeg_e, kRl3_0, kRl2_0, kRl1_0, fRevL_e, kIsi2_0, kIsi1_0, fIsi_e, kIsj2_0, kIsj1_0, fIsi2_e, kR1_0, fR1_e, kR2b_0, kR2_0, fR2_e, kLRg_0, fLRg_e, kTRg_0, fTRg_e, kFor_0, fFor_e, kSI2_0, kSI1_0, fSeqI_e, kRg1_0, fRg1_e, kRg2_0, fRg2_e, kRg3_0, fRg3_e, kEn2_0, kEn1_0, fEnum_e, kEa1_0, fEnumA_e, kId2_0, kId1_0, fIdx_e, kCm2_0, kCm1_0, fComp_e, kCm1b_0, fComp2_e, wipe_n, wipe_c, fYes_e, kLs4_0, kLs3_0, kLs2_0, kLs1_0, fLenSet_e, kFn_0, kFn_1, cN_n, cN_c, oC_t, oC_f, oL_0, oL_1, outs_o, cK_n, cK_c, cond_true, cond_false, fnG_e, kW2_0, kW2_1, kW2_2, kW2_3, kW1_0, kW1_1, kL2_0, kL2_1, kL2_2, kL2_3, kL1_0, kC4_0, isi_NoneType_bool, isi_NoneType_int, isi_NoneType_str, isi_NoneType_tuple, isi_NoneType_list, isi_NoneType_dict, isi_bool_bool, isi_bool_int, isi_bool_str, isi_bool_tuple, isi_bool_list, isi_bool_dict, isi_int_bool, isi_int_int, isi_int_str, isi_int_tuple, isi_int_list, isi_int_dict, isi_str_bool, isi_str_int, isi_str_str, isi_str_tuple, isi_str_list, isi_str_dict, isi_tuple_bool, isi_tuple_int, isi_tuple_str, isi_tuple_tuple, isi_tuple_list, isi_tuple_dict, isi_list_bool, isi_list_int, isi_list_str, isi_list_tuple, isi_list_list, isi_list_dict, isi_dict_bool, isi_dict_int, isi_dict_str, isi_dict_tuple, isi_dict_list, isi_dict_dict, ex_m, nt_m, nl_m, frz_fz, frz_ow, s1_e, s2_e, sAdd_i, sSub_i, sMul_i, sDiv_i, sMod_i, sPow_i, sLt_i, sLe_i, sGt_i, sGe_i, nB_t, nB_f, sIs_n, sIs_b, isN_n, isN_t, isN_l, isN_r, isN_i, isN_b, isN_s, isN_o, sEq_i, sEq_b, sEq_o, sEq_l, sEq_t, sIn_te, sIn_le, kEx_0, sIx_t, sIx_l, sIx_r, kIx_0, sIx_o, unfz_n, unfz_c, unfz_m, at_0, at_1, at_2, at_3, gLen_t, gLen_l, gLen_r, gLen_o, gInt_i, gInt_b, gAbs_i, gMax2_i, gMin2_i, gList_t, gList_l, gTuple_l, gTuple_o, gTuple_t, isLs_o, isLs_l, isLs_r, tru_b, tru_i, sApp_e, sExt_t, sExt_l, ty_int, ty_bl, ty_non, ty_str, ty_tup, ty_lst, ty_rol, ty_ow, seqOf_l, seqOf_t, seqOf_r, frzs_fz, Dv.M.frz, Dv.M.frzs, List.getElem?_cons_zero, List.getElem?_cons_succ, List.set_cons_zero, List.set_cons_succ, List.map_cons, List.map_nil, List.replicate_succ, List.replicate_zero, List.cons_append, List.nil_append, List.append_nil, List.length_cons, List.length_nil, List.length_map, List.length_set, Nat.zero_add, Nat.add_zero, decide_true, decide_false, and_self, Bool.not_true, Bool.not_false, Bool.or_true, Bool.true_or, Bool.or_false, Bool.false_or, Bool.and_true, Bool.true_and, Bool.and_false, Bool.false_and, Nat.lt_add_left_iff_pos, Nat.zero_lt_succ, true_and, and_true, Nat.le_refl, Nat.lt_irrefl, List.isEmpty_nil, List.isEmpty_cons, Nat.reduceAdd, Nat.reduceSub, Nat.reduceLeDiff, Nat.reduceLT, Nat.reduceBEq, Nat.reduceEqDiff, Nat.reduceMul, Int.reduceNeg, Nat.le_add_left])
/-! ### the height, row by row -/
def kidM : Bt → List M
  | .nil => []
  | .nd l r => [.fz (eb l), .fz (eb r)]
theorem kidM_all (ws : List Bt) : (ws.filter Bt.nn0).flatMap kidM = (Bt.kids ws).map fun w => M.fz (eb w) := by
  induction ws with
  | nil => rfl
  | cons w ws ih =>
    rw [Bt.kids_cons, List.map_append, ← ih, List.filter_cons]
    cases w <;> simp [Bt.nn0, Bt.kid, kidM, List.flatMap_cons]
theorem szs_kids (ws : List Bt) : (Bt.kids ws).length ≤ 2 * szs ws ∧ szs (Bt.kids ws) ≤ szs ws := by
  induction ws with
  | nil => exact ⟨Nat.le_refl _, Nat.le_refl _⟩
  | cons w ws ih =>
    rw [Bt.kids_cons, szs_app, List.length_append]
    cases w with
    | nil => simp only [Bt.kid, szs, Bt.sz, List.length_nil]; omega
    | nd l r => simp only [Bt.kid, szs, Bt.sz, List.length_cons, List.length_nil]; omega
theorem height_loop (B : Option M) : ∀ (n : Nat) (ws : List Bt) (f : Nat), Bt.mxh ws < n → ws.length ≤ 1000 → szs ws ≤ 400 →
    ∃ ρ, fWhile t_height_of_8 l_height_of_9 n [B, some (.fz (.lst (ws.map eb))), some (.fz (.int (f : Nat))), none, none] = some (.nx (B :: ρ)) ∧ ρ[1]? = some (some (.fz (.int ((f + Bt.mxh ws : Nat) : Int)))) ∧ ρ.length = 4 := by
  intro n
  induction n with
  | zero => intro ws f h; omega
  | succ n ih =>
    intro ws f h hl hz
    have hc1 : fCompL g_height_of_1 t_height_of_2 v_height_of_3 [3] (ws.map eb) [] [B, some (.fz (.lst (ws.map eb))), some (.fz (.int (f : Nat))), none, none] = some (((ws.filter Bt.nn0).map fun w => M.fz (eb w)), [B, some (.fz (.lst (ws.map eb))), some (.fz (.int (f : Nat))), none, none]) := by
      generalize some (M.fz (D.lst (ws.map eb))) = W
      refine comp_alf eb _ _ _ (by omega) fun w hw => ⟨[B, W, some (.fz (.int (f : Nat))), some (.fz (eb w)), none], [B, W, some (.fz (.int (f : Nat))), some (.fz (eb w)), none], ?_, ?_, fun _ => ?_, fun _ => ⟨[B, W, some (.fz (.int (f : Nat))), some (.fz (eb w)), none], ?_, ?_⟩⟩
      · exists g_height_of_1
      · cases w with
        | nil => exists t_height_of_2, eb_0, Bt.nn0
        | nd l r => exists t_height_of_2, eb_1, Bt.nn0
      · exists gB_t
      · exists v_height_of_3
      · exists gB_t
    have he : ((ws.filter Bt.nn0).map fun w => M.fz (eb w)).isEmpty = decide (Bt.mxh ws = 0) := by
      rw [← Bt.nil_mxh]; cases ws.filter Bt.nn0 <;> rfl
    generalize ((ws.filter Bt.nn0).map fun w => M.fz (eb w)) = L at hc1 he
    by_cases c : Bt.mxh ws = 0
    · rw [decide_eq_true c] at he
      refine ⟨[some (.fz (.lst (ws.map eb))), some (.fz (.int (f : Nat))), none, none], while_end ?_, by rw [c]; rfl, rfl⟩
      exists t_height_of_8, hc1, he
    · rw [decide_eq_false c] at he
      have ht : t_height_of_8 [B, some (.fz (.lst (ws.map eb))), some (.fz (.int (f : Nat))), none, none] = some (true, [B, some (.fz (.lst (ws.map eb))), some (.fz (.int (f : Nat))), none, none]) := by
        exists t_height_of_8, hc1, he
      have hk := szs_kids ws
      have hc2 : fComp2L g_height_of_4 t_height_of_5 (fSeqI (fFz (fV 3))) g_height_of_6 fYes v_height_of_7 [3, 4] [4] (ws.map eb) [] [B, some (.fz (.lst (ws.map eb))), some (.fz (.int (f : Nat))), none, none] = some (((Bt.kids ws).map eb).map M.fz, [B, some (.fz (.lst (ws.map eb))), some (.fz (.int (f : Nat))), none, none]) := by
        have hall := kidM_all ws
        rw [mapmB] at hall
        rw [← hall]
        have hlen : ((ws.filter Bt.nn0).flatMap kidM).length ≤ 100000 := by rw [hall]; simp; omega
        generalize some (M.fz (D.lst (ws.map eb))) = W
        refine comp2_al eb Bt.nn0 kidM ws (fun w hw => ⟨[B, W, some (.fz (.int (f : Nat))), some (.fz (eb w)), none], [B, W, some (.fz (.int (f : Nat))), some (.fz (eb w)), none], ?_, ?_, fun _ => ?_, fun hw => ?_⟩) hlen
        · exists g_height_of_4
        · cases w with
          | nil => exists t_height_of_5, eb_0, Bt.nn0
          | nd l r => exists t_height_of_5, eb_1, Bt.nn0
        · exists gB_t
        · cases w with
          | nil => simp [Bt.nn0] at hw
          | nd l r =>
            refine ⟨[eb l, eb r], [B, W, some (.fz (.int (f : Nat))), some (.fz (eb (.nd l r))), none], (by exists eb_1), fun acc ha => ⟨[B, W, some (.fz (.int (f : Nat))), some (.fz (eb (.nd l r))), none], ?_, (by exists gB_t)⟩⟩
            have := comp_acc (g := g_height_of_6) (ft := fYes) (fe := v_height_of_7) (vs := [4]) (ρ := [B, W, some (.fz (.int (f : Nat))), some (.fz (eb (.nd l r))), none]) eb (fun _ => true) (fun w => M.fz (eb w)) [l, r] acc (by simpa [kidM] using ha) fun x _ => ⟨[B, W, some (.fz (.int (f : Nat))), some (.fz (eb (.nd l r))), some (.fz (eb x))], [B, W, some (.fz (.int (f : Nat))), some (.fz (eb (.nd l r))), some (.fz (eb x))], (by exists g_height_of_6), rfl, (fun h => by simp at h), fun _ => ⟨[B, W, some (.fz (.int (f : Nat))), some (.fz (eb (.nd l r))), some (.fz (eb x))], (by exists v_height_of_7), (by exists gB_t)⟩⟩
            have hw0 : wipeE [B, W, some (.fz (.int (f : Nat))), some (.fz (eb (.nd l r))), none] [4] = [B, W, some (.fz (.int (f : Nat))), some (.fz (eb (.nd l r))), none] := rfl
            rw [hw0]
            exact this
      have hs : l_height_of_9 [B, some (.fz (.lst (ws.map eb))), some (.fz (.int (f : Nat))), none, none] = some (.nx [B, some (.fz (.lst ((Bt.kids ws).map eb))), some (.fz (.int ((f + 1 : Nat) : Int))), none, none]) := by
        exists l_height_of_9, hc2, ad1
      have hm := Bt.mxh_kids ws
      obtain ⟨ρ, e, q, z⟩ := ih (Bt.kids ws) (f + 1) (by omega) (by omega) (by omega)
      exact ⟨ρ, by rw [while_go ht hs, e], by rw [q, hm, show f + 1 + (Bt.mxh ws - 1) = f + Bt.mxh ws by omega], z⟩
theorem binheight_ok (t : Bt) (h : t.sz ≤ 12) : m_binary_height [.fz (eb t)] = some (.fz (.int (t.ht : Nat)), [none]) := by
  have hk := check_ok t h
  have hz := t.ht_sz
  have hm : Bt.mxh [t] = t.ht := by simp [Bt.mxh]
  obtain ⟨ρ, e, q, z⟩ := height_loop (some (.fz (eb t))) 1000 [t] 0 (by omega) (by simp) (by simp only [szs]; omega)
  have e : fWhile t_height_of_8 l_height_of_9 1000 [some (.fz (eb t)), some (.fz (.lst [eb t])), some (.fz (.int 0)), none, none] = some (.nx (some (.fz (eb t)) :: ρ)) := e
  rw [hm, Nat.zero_add] at q
  obtain ⟨a, b, c, d, rfl⟩ : ∃ a b c d, ρ = [a, b, c, d] := by
    match ρ, z with
    | [a, b, c, d], _ => exact ⟨a, b, c, d, rfl⟩
  have q : b = some (.fz (.int (t.ht : Nat))) := Option.some.inj q
  subst q
  have hh : m_height_of [.fz (eb t)] = some (.fz (.int (t.ht : Nat)), [none]) := by
    exists y_height_of, e_height_of, e
  exists y_binary_height, e_binary_height, hk, hh
/-! ### colors -/
def cS (b : Bool) : D := if b then .str "black" else .str "red"
theorem cS_1 : cS true = .str "black" := rfl
theorem cS_0 : cS false = .str "red" := rfl
theorem str_ne : deq (.str "black") (.str "red") = false ∧ deq (.str "red") (.str "black") = false := ⟨by kernel_rfl, by kernel_rfl⟩
theorem shal_s (x y : Str) : shal (.str x) (.str y) = true := by unfold shal; simp [toP, PyData.depth]
theorem sEq_st (n : Bool) (x y : Str) : sEq n (.fz (.str x)) (.fz (.str y)) = some (.ex (.bl (if n then !deq (.str x) (.str y) else deq (.str x) (.str y)))) :=
  sEq_gen n (a := .fz (.str x)) (b := .fz (.str y)) rfl rfl rfl (shal_s x y)
theorem sEq_cb (n b : Bool) : sEq n (.fz (cS b)) (.fz (.str "black")) = some (.ex (.bl (if n then !b else b))) := by
  cases b with
  | true => rw [cS_1, sEq_st, deq_refl]
  | false => rw [cS_0, sEq_st, str_ne.2]
theorem sEq_cr (n b : Bool) : sEq n (.fz (cS b)) (.fz (.str "red")) = some (.ex (.bl (if n then b else !b))) := by
  cases b with
  | true => rw [cS_1, sEq_st, str_ne.1]; cases n <;> rfl
  | false => rw [cS_0, sEq_st, deq_refl]; cases n <;> rfl
theorem ifcol (f : FE) (c : Bool) : (if c = true then D.str "black" else D.str "red") = cS c := rfl
theorem colored_step (r : FF) (B N C : Option M) (k : Nat) (t : Bt) (rs : List M) (L : List D) (s5 : Option M) (hz : t.sz ≤ 400) (hd : t.dep < 16) (hl : rs.length ≤ 10)
    (hr : r [.fz (eb t), .fz (.int (k : Nat)), .fz (cS (decide (t.ht ≤ 2 * k)))] = some (.fz (.tup L), [none, none, none])) :
    l_colored_2 r [B, N, C, some (.fz (.int (k : Nat))), some (.ow rs), some (.fz (eb t))] = some (.nx [B, N, C, some (.fz (.int (k : Nat))), some (.ow (rs ++ [.fz (.tup L)])), some (.fz (eb t))]) := by
  have h1 := heightin_ok t 16 hd
  have h2 : decide (((t.ht : Nat) : Int) ≤ 2 * ((k : Nat) : Int)) = decide (t.ht ≤ 2 * k) := by
    by_cases c : t.ht ≤ 2 * k
    · rw [decide_eq_true c, decide_eq_true (by omega)]
    · rw [decide_eq_false c, decide_eq_false (by omega)]
  have hl' : rs.length ≤ 100000 := by omega
  cases hc : decide (t.ht ≤ 2 * k) with
  | true =>
    rw [hc, cS_1] at hr; rw [hc] at h2
    exists l_colored_2, h1, okM2, h2, hr, hl'
  | false =>
    rw [hc, cS_0] at hr; rw [hc] at h2
    exists l_colored_2, h1, okM2, h2, hr, hl'
theorem colored_ok : ∀ (t : Bt) (k n : Nat) (c par : Bool), t.dep < k → t.sz ≤ 14 → Bt.Cn t n c par → m_colored k [.fz (eb t), .fz (.int (n : Nat)), .fz (cS c)] = some (.fz (.tup ((Bt.col t n c).map cS)), [none, none, none]) := by
  intro t
  induction t with
  | nil =>
    intro k n c par h _ _
    cases k with
    | zero => simp [Bt.dep] at h
    | succ k => exists y_colored, e_colored, eb_0, Bt.col
  | nd l r ihl ihr =>
    intro k n c par h hz hc
    cases k with
    | zero => simp [Bt.dep] at h
    | succ k =>
      obtain ⟨j, rfl, cl, cr⟩ := Bt.Cn_side hc
      simp only [Bt.sz] at hz
      have hl := ihl k j _ _ (dq0 h).1 (by omega) cl
      have hr := ihr k j _ _ (dq0 h).2 (by omega) cr
      rw [Bt.col_nd]
      have l1 := l.col_len j (decide (l.ht ≤ 2 * j))
      have l2 := r.col_len j (decide (r.ht ≤ 2 * j))
      obtain ⟨A, hA, lA⟩ : ∃ A, A = (l.col j (decide (l.ht ≤ 2 * j))).map cS ∧ A.length ≤ 14 := ⟨_, rfl, by simp; omega⟩
      obtain ⟨Z, hZ, lZ⟩ : ∃ Z, Z = (r.col j (decide (r.ht ≤ 2 * j))).map cS ∧ Z.length ≤ 14 := ⟨_, rfl, by simp; omega⟩
      rw [← hA] at hl
      rw [← hZ] at hr
      have e1 := sEq_cb false c
      have hj : ((j + (if c = true then 1 else 0) : Nat) : Int) - (if c = true then 1 else 0) = ((j : Nat) : Int) := by cases c <;> simp
      have dl := l.dep_le
      have dr := r.dep_le
      have st1 := colored_step (m_colored k) (some (.fz (.tup [eb l, eb r]))) (some (.fz (.int ((j + (if c = true then 1 else 0) : Nat) : Int)))) (some (.fz (cS c))) j l [] A none (by omega) (by omega) (by simp) hl
      have st2 := colored_step (m_colored k) (some (.fz (.tup [eb l, eb r]))) (some (.fz (.int ((j + (if c = true then 1 else 0) : Nat) : Int)))) (some (.fz (cS c))) j r [.fz (.tup A)] Z none (by omega) (by omega) (by simp) hr
      have lp : fLoop g_colored_1 (l_colored_2 (m_colored k)) [eb l, eb r] [some (.fz (.tup [eb l, eb r])), some (.fz (.int ((j + (if c = true then 1 else 0) : Nat) : Int))), some (.fz (cS c)), some (.fz (.int (j : Nat))), some (.ow []), none] = some (.nx [some (.fz (.tup [eb l, eb r])), some (.fz (.int ((j + (if c = true then 1 else 0) : Nat) : Int))), some (.fz (cS c)), some (.fz (.int (j : Nat))), some (.ow [.fz (.tup A), .fz (.tup Z)]), some (.fz (eb r))]) := by
        rw [loop_go (by exists g_colored_1) st1, loop_go (by exists g_colored_1) st2]
        rfl
      obtain ⟨o1, a1, b1⟩ := sAdd_tup A [cS c] (by simp; omega)
      obtain ⟨o2, a2, b2⟩ := sAdd_tup (A ++ [cS c]) Z (by simp; omega)
      have hx : (l.col j (decide (l.ht ≤ 2 * j)) ++ c :: r.col j (decide (r.ht ≤ 2 * j))).map cS = A ++ [cS c] ++ Z := by
        rw [hA, hZ]; simp
      rw [hx]
      generalize cS c = cc at *
      exists y_colored, e_colored, eb_1, e1, Bool.false_eq_true, if_false, hj, lp, a1, b1, a2, b2
/-- the program's own coloring -/
def clg (t : Bt) : Option (List Bool) := match t.flt with
  | none => some (Bt.col t ((t.ht + 1) / 2) true)
  | some _ => none
def ocD : Option (List Bool) → D
  | none => .non
  | some cs => .tup (cs.map cS)
theorem ocD_0 : ocD none = .non := rfl
theorem ocD_1 (cs : List Bool) : ocD (some cs) = .tup (cs.map cS) := rfl
theorem coloring_ok (t : Bt) (h : t.sz ≤ 12) : m_coloring_of [.fz (eb t)] = some (.fz (ocD (clg t)), [none]) := by
  have hk := check_ok t h
  have hn := numbers_ok t h
  have hd := t.dep_le
  unfold clg
  unfold nmb at hn
  cases hc : t.flt with
  | some i =>
    rw [hc] at hn
    simp only [ocD_0] at hn ⊢
    exists y_coloring_of, e_coloring_of, hk, hn
  | none =>
    rw [hc] at hn
    have ho := (Bt.flt_none t).mp hc
    have hh := Bt.okc_ht ho
    have hcol := colored_ok t 16 ((t.ht + 1) / 2) true true (by omega) (by omega) (Bt.Cn_top ho (Nat.le_refl _) (by omega))
    rw [cS_1] at hcol
    simp only [ocD_1] at hn ⊢
    obtain ⟨L, hL⟩ : ∃ L, rgD (((t.ht + 1) / 2 : Nat) : Int) (t.lo + 1 - (t.ht + 1) / 2) = .int (((t.ht + 1) / 2 : Nat) : Int) :: L := by
      have : ∃ n, t.lo + 1 - (t.ht + 1) / 2 = n + 1 := ⟨t.lo - (t.ht + 1) / 2, by omega⟩
      obtain ⟨n, e⟩ := this
      rw [e]
      unfold rgD
      rw [List.range_succ_eq_map, List.map_cons]
      exact ⟨(List.map Nat.succ (List.range n)).map fun i => D.int ((((t.ht + 1) / 2 : Nat) : Int) + (i : Nat)), by simp⟩
    rw [hL] at hn
    exists y_coloring_of, e_coloring_of, hk, hn, hcol
end Lk29

set_option Elab.async false
set_option linter.all false
set_option maxRecDepth 100000
set_option maxHeartbeats 4000000
namespace Lk29
open PySem PySem.Spec PyProof.Rows L2 Dv
local macro_rules
  | `(tactic| exists $es:term,*) => `(tactic| simp (config := { implicitDefEqProofs := false }) only [$[$es:term],*, gB_t, fC_e, kV_0, kV_1, kV_2, fV_e, kFzA_0, kFz_0, kFz_1, fFz_e, kMvA_0, kMv_0, kMv_1, fMv_e, look_v, kJ_0, look_a, kO_0, kBin3b_0, kBin3_0, kBin2_0, kBin1_0, fBin_e, kTst_0, fTst_e, kCons2_0, kCons1_0, fCons_e, fNil_e, kLooks2_0, kLooks_0, looks_n, looks_c, kCall2_0, kCall1_0, fCall_e, kAf_0, allFz_n, allFz_c, kOwn_0, owns_n, owns_c, kTup2_0, kTup_0, fTup_e, kLst2_0, kLst_0, fLst_e, kAnd_0, kAnd_1, kOr_0, kOr_1, kNot_0, fAnd_e, fOr_e, fNot_e, kTru3_0, kTru2_0, kTru_0, fTru_e, kAndV_0, kAndV_1, kOrV_0, kOrV_1, kNotV_0, fAndV_e, fOrV_e, fNotV_e, kIfE_0, kIfE_1, fIf_e, kSeq_0, kSeq_1, kSeq_2, kSeq_3, fSeq_e, fPass_e, fRetN_e, fBreak_e, fCont_e, kExpr_0, fExpr_e, kRet_0, fRet_e, kIf_0, kIf_1, fIfS_e, kNx_0, kAsg_0, fAsg_e, gN_e, kPar_0, gPar_e, kPar3_0, gPar3_e, gTupl_e, gsNil_e, kGs_0, gsCons_e, gmNil_e, kGm_0, gmCons_e, kUnp2_0, kUnp_0, fUnp_e, kSet4_0, kSet3_0, kSet2_0, kSet1_0, gSet_e, kIsO_0, kMt6_0, kMt5_0, kMt4_0, kMt3_0, kMt2_0, kMt1_0, fMt_e, kCF3_0, kCF2_0, kCF1_0, fCallF_e, kLd_0, kLdA_0, lend_n, lend_v, lend_a, back_n, back_v, back_a, kPk2_0, kPk_0, pick_n, pick_c, kCK5_0, kCK4_0, kCK3_0, kCK2_0, kCK1_0, fCallK_e, kCh4_0, kCh3_0, kCh3_1, kCh2_0, kCh1_0, fCh_e, kSl4_0, kSl3_0, kSl2_0, kSl1_0, fSl_e, fONone_e, kOS_0, fOSome_e, kNeg_0, fNeg_e, kRl3_0, kRl2_0, kRl1_0, fRevL_e, kIsi2_0, kIsi1_0, fIsi_e, kIsj2_0, kIsj1_0, fIsi2_e, kR1_0, fR1_e, kR2b_0, kR2_0, fR2_e, kLRg_0, fLRg_e, kTRg_0, fTRg_e, kFor_0, fFor_e, kSI2_0, kSI1_0, fSeqI_e, kRg1_0, fRg1_e, kRg2_0, fRg2_e, kRg3_0, fRg3_e, kEn2_0, kEn1_0, fEnum_e, kEa1_0, fEnumA_e, kId2_0, kId1_0, fIdx_e, kCm2_0, kCm1_0, fComp_e, kCm1b_0, fComp2_e, wipe_n, wipe_c, fYes_e, kLs4_0, kLs3_0, kLs2_0, kLs1_0, fLenSet_e, kFn_0, kFn_1, cN_n, cN_c, oC_t, oC_f, oL_0, oL_1, outs_o, cK_n, cK_c, cond_true, cond_false, fnG_e, kW2_0, kW2_1, kW2_2, kW2_3, kW1_0, kW1_1, kL2_0, kL2_1, kL2_2, kL2_3, kL1_0, kC4_0, isi_NoneType_bool, isi_NoneType_int, isi_NoneType_str, isi_NoneType_tuple, isi_NoneType_list, isi_NoneType_dict, isi_bool_bool, isi_bool_int, isi_bool_str, isi_bool_tuple, isi_bool_list, isi_bool_dict, isi_int_bool, isi_int_int, isi_int_str, isi_int_tuple, isi_int_list, isi_int_dict, isi_str_bool, isi_str_int, isi_str_str, isi_str_tuple, isi_str_list, isi_str_dict, isi_tuple_bool, isi_tuple_int, isi_tuple_str, isi_tuple_tuple, isi_tuple_list, isi_tuple_dict, isi_list_bool, isi_list_int, isi_list_str, isi_list_tuple, isi_list_list, isi_list_dict, isi_dict_bool, isi_dict_int, isi_dict_str, isi_dict_tuple, isi_dict_list, isi_dict_dict, ex_m, nt_m, nl_m, frz_fz, frz_ow, s1_e, s2_e, sAdd_i, sSub_i, sMul_i, sDiv_i, sMod_i, sPow_i, sLt_i, sLe_i, sGt_i, sGe_i, nB_t, nB_f, sIs_n, sIs_b, isN_n, isN_t, isN_l, isN_r, isN_i, isN_b, isN_s, isN_o, sEq_i, sEq_b, sEq_o, sEq_l, sEq_t, sIn_te, sIn_le, kEx_0, sIx_t, sIx_l, sIx_r, kIx_0, sIx_o, unfz_n, unfz_c, unfz_m, at_0, at_1, at_2, at_3, gLen_t, gLen_l, gLen_r, gLen_o, gInt_i, gInt_b, gAbs_i, gMax2_i, gMin2_i, gList_t, gList_l, gTuple_l, gTuple_o, gTuple_t, isLs_o, isLs_l, isLs_r, tru_b, tru_i, sApp_e, sExt_t, sExt_l, ty_int, ty_bl, ty_non, ty_str, ty_tup, ty_lst, ty_rol, ty_ow, seqOf_l, seqOf_t, seqOf_r, frzs_fz, Dv.M.frz, Dv.M.frzs, List.getElem?_cons_zero, List.getElem?_cons_succ, List.set_cons_zero, List.set_cons_succ, List.map_cons, List.map_nil, List.replicate_succ, List.replicate_zero, List.cons_append, List.nil_append, List.append_nil, List.length_cons, List.length_nil, List.length_map, List.length_set, Nat.zero_add, Nat.add_zero, decide_true, decide_false, and_self, Bool.not_true, Bool.not_false, Bool.or_true, Bool.true_or, Bool.or_false, Bool.false_or, Bool.and_true, Bool.true_and, Bool.and_false, Bool.false_and, Nat.lt_add_left_iff_pos, Nat.zero_lt_succ, true_and, and_true, Nat.le_refl, Nat.lt_irrefl, List.isEmpty_nil, List.isEmpty_cons, Nat.reduceAdd, Nat.reduceSub, Nat.reduceLeDiff, Nat.reduceLT, Nat.reduceBEq, Nat.reduceEqDiff, Nat.reduceMul, Int.reduceNeg, Nat.le_add_left])
/-! ### black nodes, by the law and by the program -/
theorem sEqO (n : Bool) (a : Nat) (o : Option Nat) : sEq n (.fz (.int (a : Nat))) (.fz (onD o)) = some (.ex (.bl (if n then !decide (some a = o) else decide (some a = o)))) := by
  cases o with
  | none =>
    have hd : deq (.int (a : Nat)) .non = false := rfl
    rw [onD_0, sEq_gen n (a := .fz (.int (a : Nat))) (b := .fz .non) rfl rfl rfl (by unfold shal; simp [M.frz, toP, PyData.depth])]
    simp only [M.frz, hd]
    cases n <;> simp
  | some b =>
    rw [onD_1, sEq_i]
    have : decide (((a : Nat) : Int) = ((b : Nat) : Int)) = decide (some a = some b) := by
      by_cases c : a = b
      · rw [decide_eq_true (by omega), decide_eq_true (by rw [c])]
      · rw [decide_eq_false (by omega), decide_eq_false (by simp [c])]
    rw [this]; cases n <;> rfl
def cg (cs : List Bool) (i : Nat) : Bool := cs.getD i true
theorem at_c (cs : List Bool) {i : Nat} (h : i < cs.length) : atI (cs.map cS) ((i : Nat) : Int) = some (cS (cg cs i)) := by
  unfold cg
  rw [atI_get' (by simpa using h)]
  simp [List.getD_eq_getElem?_getD, h]
theorem isN_cS (b : Bool) : isN (.fz (cS b)) = false := by cases b <;> rfl
theorem lblacks_ok : ∀ (t : Bt) (k f : Nat) (cs : List Bool) (par : Bool), t.dep < k → k ≤ 16 → t.sz ≤ 100 → f + t.sz ≤ cs.length → cs.length ≤ 100 →
    m__law_blacks k [.fz (eb t), .fz (.tup (cs.map cS)), .fz (.int (f : Nat)), .fz (cS par)] = some (.fz (onD (t.lb (cg cs) f par)), [none, none, none, none]) := by
  intro t
  induction t with
  | nil =>
    intro k f cs par h _ _ _ _
    cases k with
    | zero => simp [Bt.dep] at h
    | succ k => exists y__law_blacks, e__law_blacks, eb_0, Bt.lb, onD_1; rfl
  | nd l r ihl ihr =>
    intro k f cs par h h16 hz hf hc
    cases k with
    | zero => simp [Bt.dep] at h
    | succ k =>
      simp only [Bt.sz] at hz hf
      have hs := size_ok l 16 (by have := (dq0 h).1; omega)
      have ha := at_c cs (i := f + l.sz) (by omega)
      generalize hcc : cg cs (f + l.sz) = c at ha
      have hl := ihl k f cs c (dq0 h).1 (by omega) (by omega) (by omega) hc
      have hr := ihr k (f + l.sz + 1) cs c (dq0 h).2 (by omega) (by omega) (by omega) hc
      have e1 := sEq_cr false c
      have e2 := sEq_cr false par
      have e3 := sEq_cb false c
      have hlb := Bt.lb_nd l r (cg cs) f par
      rw [hcc] at hlb
      rw [hlb]
      generalize l.lb (cg cs) f c = x at hl
      generalize r.lb (cg cs) (f + l.sz + 1) c = y at hr
      by_cases hp : c = false ∧ par = false
      · rw [if_pos hp]
        obtain ⟨rfl, rfl⟩ := hp
        simp only [Bool.not_false, Bool.false_eq_true, if_false] at e1
        simp only [onD_0]
        generalize cS false = z at *
        exists y__law_blacks, e__law_blacks, eb_1, hs, adn, ha, e1
      · rw [if_neg hp]
        have hand : ((!c) && (!par)) = false := by cases c <;> cases par <;> simp_all
        cases x with
        | none =>
          rw [Bt.jn_n]
          simp only [onD_0] at hl hr ⊢
          generalize cS c = z at *
          generalize cS par = w at *
          cases c <;> cases par <;> simp only [Bool.not_false, Bool.not_true, Bool.false_eq_true, if_false] at e1 e2 hand <;> first
            | (cases hand; done)
            | exists y__law_blacks, e__law_blacks, eb_1, hs, adn, ad1, ha, e1, e2, hl, hr
        | some a =>
          have e4 := sEqO true a y
          rw [Bt.jn_s]
          simp only [onD_1] at hl
          by_cases hy : some a = y
          · rw [if_pos hy]
            rw [decide_eq_true hy] at e4
            simp only [Bool.not_true, if_true] at e4
            simp only [onD_1]
            generalize onD y = Y at *
            generalize cS c = z at *
            generalize cS par = w at *
            cases c <;> cases par <;> simp only [Bool.not_false, Bool.not_true, Bool.false_eq_true, if_false, if_true] at e1 e2 e3 hand <;> first
              | (cases hand; done)
              | (exists y__law_blacks, e__law_blacks, eb_1, hs, adn, ad1, ha, e1, e2, e3, hl, hr, e4; done)
              | (exists y__law_blacks, e__law_blacks, eb_1, hs, adn, ad1, ha, e1, e2, e3, hl, hr, e4; simp)
          · rw [if_neg hy]
            rw [decide_eq_false hy] at e4
            simp only [Bool.not_false, if_true] at e4
            simp only [onD_0]
            generalize onD y = Y at *
            generalize cS c = z at *
            generalize cS par = w at *
            cases c <;> cases par <;> simp only [Bool.not_false, Bool.not_true, Bool.false_eq_true, if_false, if_true] at e1 e2 e3 hand <;> first
              | (cases hand; done)
              | (exists y__law_blacks, e__law_blacks, eb_1, hs, adn, ad1, ha, e1, e2, e3, hl, hr, e4; done)
/-! the program's count -/
theorem countdown_ok : ∀ (t : Bt) (k : Nat) (cs : List Bool), t.dep < k → k ≤ 16 → cs.length = t.sz → t.sz ≤ 100 →
    m_count_down k [.fz (eb t), .fz (.tup (cs.map cS))] = some (.fz (onD (t.cd (cg cs) 0)), [none, none]) := by
  intro t
  induction t with
  | nil =>
    intro k cs h _ _ _
    cases k with
    | zero => simp [Bt.dep] at h
    | succ k => exists y_count_down, e_count_down, eb_0, Bt.cd, onD_1; rfl
  | nd l r ihl ihr =>
    intro k cs h h16 hlen hz
    cases k with
    | zero => simp [Bt.dep] at h
    | succ k =>
      simp only [Bt.sz] at hlen hz
      have hn := nodesin_ok r 16 (by have := (dq0 h).2; omega)
      have hl := ihl k (cs.take l.sz) (dq0 h).1 (by omega) (by simp; omega) (by omega)
      have hr := ihr k (cs.drop (l.sz + 1)) (dq0 h).2 (by omega) (by simp; omega) (by omega)
      have sh1 : l.cd (cg (cs.take l.sz)) 0 = l.cd (cg cs) 0 := Bt.cd_shift l _ _ 0 0 fun i hi => by
        unfold cg; simp [List.getD_eq_getElem?_getD, List.getElem?_take, hi]
      have sh2 : r.cd (cg (cs.drop (l.sz + 1))) 0 = r.cd (cg cs) (0 + l.sz + 1) := Bt.cd_shift r _ _ 0 _ fun i hi => by
        unfold cg; simp [List.getD_eq_getElem?_getD, List.getElem?_drop, Nat.add_assoc]
      rw [sh1] at hl
      rw [sh2] at hr
      rw [List.map_take] at hl
      rw [List.map_drop] at hr
      have ha := at_c cs (i := l.sz) (by omega)
      have hcd := Bt.cd_nd l r (cg cs) 0
      have hz0 : 0 + l.sz = l.sz := Nat.zero_add _
      rw [hz0] at hcd
      rw [hz0] at hr
      rw [hcd]
      generalize hcc : cg cs l.sz = c at ha hcd ⊢
      have e3 := sEq_cb false c
      generalize l.cd (cg cs) 0 = x at hl
      generalize r.cd (cg cs) (l.sz + 1) = y at hr
      obtain ⟨o1, a1, b1⟩ := sl_tlo (cs.map cS) l.sz
      obtain ⟨o2, a2, b2⟩ := sl_thi (cs.map cS) (l.sz + 1)
      have hlc : gLen (.fz (.tup (cs.map cS))) = some (.ex (.int (cs.length : Nat))) := by
        show some _ = some _; simp
      have hd : ((cs.length : Nat) : Int) - 1 - ((r.sz : Nat) : Int) = ((l.sz : Nat) : Int) := by omega
      cases x with
      | none =>
        rw [Bt.jn_n]
        simp only [onD_0] at hl ⊢
        generalize (cs.map cS).take l.sz = A at *
        generalize (cs.map cS).drop (l.sz + 1) = Z at *
        generalize cS c = z at *
        exists y_count_down, e_count_down, eb_1, hlc, hn, hd, ad1, a1, b1, a2, b2, hl, hr
      | some a =>
        have e4 := sEqO true a y
        rw [Bt.jn_s]
        simp only [onD_1] at hl
        generalize (cs.map cS).take l.sz = A at *
        generalize (cs.map cS).drop (l.sz + 1) = Z at *
        by_cases hy : some a = y
        · rw [if_pos hy]
          rw [decide_eq_true hy] at e4
          simp only [Bool.not_true, if_true] at e4
          simp only [onD_1]
          generalize onD y = Y at *
          generalize cS c = z at *
          cases c <;> simp only [Bool.false_eq_true, if_false, if_true] at e3 ⊢ <;> first
            | (exists y_count_down, e_count_down, eb_1, hlc, hn, hd, ad1, a1, b1, a2, b2, hl, hr, e4, ha, e3; done)
            | (exists y_count_down, e_count_down, eb_1, hlc, hn, hd, ad1, a1, b1, a2, b2, hl, hr, e4, ha, e3; simp)
        · rw [if_neg hy]
          rw [decide_eq_false hy] at e4
          simp only [Bool.not_false, if_true] at e4
          simp only [onD_0]
          generalize onD y = Y at *
          generalize cS c = z at *
          exists y_count_down, e_count_down, eb_1, hlc, hn, hd, ad1, a1, b1, a2, b2, hl, hr, e4
/-! two red ones joined -/
def eP (x : Nat × Nat) : D := .tup [.int (x.1 : Nat), .int (x.2 : Nat)]
theorem prs_len (x : Nat × Bt × Bt) : (Bt.prs x).length ≤ 2 := by
  unfold Bt.prs
  cases x.2.1 <;> cases x.2.2 <;> simp
theorem red_step (B C : Option M) (ps : List (Nat × Nat)) (x : Nat × Bt × Bt) (n : Nat) (h1 : x.2.1.sz ≤ x.1) (hz : x.2.1.sz ≤ 12) (hz2 : x.2.2.sz ≤ 12) (hn : ps.length ≤ 1000) (s6 : Option M) :
    l_has_red_pair_2 [B, C, some (.ow ((ps.map eP).map .fz)), some (.fz (.int (x.1 : Nat))), some (.fz (eb x.2.1)), some (.fz (eb x.2.2)), s6] = some (.nx [B, C, some (.ow (((ps ++ Bt.prs x).map eP).map .fz)), some (.fz (.int (x.1 : Nat))), some (.fz (eb x.2.1)), some (.fz (eb x.2.2)), s6]) := by
  obtain ⟨i, l, r⟩ := x
  have hl : ps.length ≤ 100000 := by omega
  have hl1 : ps.length + 1 ≤ 100000 := by omega
  cases l with
  | nil =>
    cases r with
    | nil => exists l_has_red_pair_2, Bt.prs, eb_0, List.append_nil
    | nd a b =>
      simp only [Bt.sz] at hz hz2 h1
      have n1 := nodesin_ok a 16 (by have := a.dep_le; omega)
      exists l_has_red_pair_2, Bt.prs, eb_0, eb_1, n1, ad1, adn, hl, List.map_append, eP
  | nd a b =>
    simp only [Bt.sz] at hz hz2 h1
    have n1 := nodesin_ok b 16 (by have := b.dep_le; omega)
    have hd : ((i : Nat) : Int) - 1 - ((b.sz : Nat) : Int) = ((i - 1 - b.sz : Nat) : Int) := by omega
    cases r with
    | nil => exists l_has_red_pair_2, Bt.prs, eb_0, eb_1, n1, hd, hl, List.map_append, eP
    | nd c d =>
      simp only [Bt.sz] at hz2
      have n2 := nodesin_ok c 16 (by have := c.dep_le; omega)
      exists l_has_red_pair_2, Bt.prs, eb_1, n1, n2, hd, ad1, adn, hl, hl1, List.map_append, List.length_append, List.append_assoc, eP
theorem red_loop (B C : Option M) : ∀ (l : List (Nat × Bt × Bt)) (ps : List (Nat × Nat)) (a b c s6 : Option M), (∀ x ∈ l, x.2.1.sz ≤ x.1 ∧ x.2.1.sz ≤ 12 ∧ x.2.2.sz ≤ 12) → ps.length + 2 * l.length ≤ 1000 →
    ∃ a' b' c', fLoop g_has_red_pair_1 l_has_red_pair_2 (l.map es) [B, C, some (.ow ((ps.map eP).map .fz)), a, b, c, s6] = some (.nx [B, C, some (.ow (((ps ++ l.flatMap Bt.prs).map eP).map .fz)), a', b', c', s6])
  | [], ps, a, b, c, s6, _, _ => ⟨a, b, c, by simp [fLoop]⟩
  | x :: l, ps, a, b, c, s6, h, hn => by
    obtain ⟨h1, h2, h3⟩ := h x List.mem_cons_self
    simp only [List.length_cons] at hn
    have hp := prs_len x
    have st := red_step B C ps x 0 h1 h2 h3 (by omega) s6
    obtain ⟨a', b', c', e⟩ := red_loop B C l (ps ++ Bt.prs x) (some (.fz (.int (x.1 : Nat)))) (some (.fz (eb x.2.1))) (some (.fz (eb x.2.2))) s6 (fun y hy => h y (List.mem_cons_of_mem _ hy)) (by rw [List.length_append]; omega)
    refine ⟨a', b', c', ?_⟩
    rw [List.map_cons, loop_go (ρ1 := [B, C, some (.ow ((ps.map eP).map .fz)), some (.fz (.int (x.1 : Nat))), some (.fz (eb x.2.1)), some (.fz (eb x.2.2)), s6]) (by exists g_has_red_pair_1, es) st, e, List.flatMap_cons, List.append_assoc]
theorem str_left (t : Bt) : ∀ f, ∀ x ∈ t.str f, f + x.2.1.sz ≤ x.1 ∧ x.1 + 1 + x.2.2.sz ≤ f + t.sz := by
  induction t with
  | nil => intro f x h; simp [Bt.str] at h
  | nd l r hl hr =>
    intro f x h
    simp only [Bt.str, List.mem_append, List.mem_cons] at h
    simp only [Bt.sz]
    rcases h with h | h | h
    · have := hl f x h; omega
    · rw [h]; simp only; omega
    · have := hr _ x h; omega
theorem prs_lt (x : Nat × Bt × Bt) (n : Nat) (h : x.2.1.sz ≤ x.1) (h2 : x.1 + 1 + x.2.2.sz ≤ n) : ∀ y ∈ Bt.prs x, y.1 < n ∧ y.2 < n := by
  obtain ⟨i, l, r⟩ := x
  intro y hy
  unfold Bt.prs at hy
  simp only [List.mem_append] at hy h h2
  rcases hy with hy | hy
  · cases l with
    | nil => simp at hy
    | nd a b => simp at hy; subst hy; simp only [Bt.sz] at h; simp only; omega
  · cases r with
    | nil => simp at hy
    | nd a b => simp at hy; subst hy; simp only [Bt.sz] at h2; simp only; omega
theorem redpair_ok (t : Bt) (cs : List Bool) (h : t.sz ≤ 12) (hc : cs.length = t.sz) : m_has_red_pair [.fz (eb t), .fz (.tup (cs.map cS))] = some (.fz (.bl (t.rp (cg cs) 0)), [none, none]) := by
  have hs := stretches_ok t 16 0 (by have := t.dep_le; omega) (by omega)
  have hs : m_stretches_of 16 [.fz (eb t), .fz (.int 0)] = some (.fz (.lst ((t.str 0).map es)), [none, none]) := hs
  have hl := t.str_len 0
  have hx := str_left t 0
  obtain ⟨a, b, c, e⟩ := red_loop (some (.fz (eb t))) (some (.fz (.tup (cs.map cS)))) (t.str 0) [] none none none none (fun x hx' => by have := hx x hx'; omega) (by simp; omega)
  rw [List.nil_append] at e
  have hlt : ∀ y ∈ (t.str 0).flatMap Bt.prs, y.1 < cs.length ∧ y.2 < cs.length := by
    intro y hy
    obtain ⟨x, h1, h2⟩ := List.mem_flatMap.mp hy
    have := hx x h1
    exact prs_lt x cs.length (by omega) (by omega) y h2
  have hlen : ((t.str 0).flatMap Bt.prs).length ≤ 24 := by
    have : ∀ l : List (Nat × Bt × Bt), (l.flatMap Bt.prs).length ≤ 2 * l.length := by
      intro l
      induction l with
      | nil => simp
      | cons x l ih => rw [List.flatMap_cons, List.length_append, List.length_cons]; have := prs_len x; omega
    have := this (t.str 0); omega
  have hrp : t.rp (cg cs) 0 = (((t.str 0).flatMap Bt.prs).map fun y => !cg cs y.1 && !cg cs y.2).any id := by
    unfold Bt.rp; rw [List.any_map]; rfl
  rw [hrp]
  generalize (t.str 0).flatMap Bt.prs = L at e hlt hlen
  have e : fLoop g_has_red_pair_1 l_has_red_pair_2 ((t.str 0).map es) [some (.fz (eb t)), some (.fz (.tup (cs.map cS))), some (.ow []), none, none, none, none] = some (.nx [some (.fz (eb t)), some (.fz (.tup (cs.map cS))), some (.ow ((L.map eP).map .fz)), a, b, c, none]) := e
  have hmm : (L.map fun y => !cg cs y.1 && !cg cs y.2).map D.bl = L.map fun y => D.bl (!cg cs y.1 && !cg cs y.2) := by rw [List.map_map]; rfl
  have hcm : fCompL g_has_red_pair_3 fYes v_has_red_pair_4 [3, 6] (L.map eP) [] [some (.fz (eb t)), some (.fz (.tup (cs.map cS))), some (.fz (.lst (L.map eP))), none, b, c, none] = some (((L.map fun y => !cg cs y.1 && !cg cs y.2).map D.bl).map M.fz, [some (.fz (eb t)), some (.fz (.tup (cs.map cS))), some (.fz (.lst (L.map eP))), none, b, c, none]) := by
    generalize some (M.fz (D.lst (L.map eP))) = W
    rw [hmm, ← mapmB L fun y => D.bl (!cg cs y.1 && !cg cs y.2)]
    refine comp_al eP _ L (by omega) fun y hy => ?_
    obtain ⟨y1, y2⟩ := hlt y hy
    have a1 := at_c cs y1
    have a2 := at_c cs y2
    have e1 := sEq_cr false (cg cs y.1)
    have e2 := sEq_cr false (cg cs y.2)
    refine ⟨[some (.fz (eb t)), some (.fz (.tup (cs.map cS))), W, some (.fz (.int (y.1 : Nat))), b, c, some (.fz (.int (y.2 : Nat)))], [some (.fz (eb t)), some (.fz (.tup (cs.map cS))), W, some (.fz (.int (y.1 : Nat))), b, c, some (.fz (.int (y.2 : Nat)))], ?_, ?_, ?_⟩
    · exists g_has_red_pair_3, eP
    · generalize cg cs y.1 = p at *
      generalize cg cs y.2 = q at *
      generalize hz1 : cS p = z1 at *
      generalize hz2 : cS q = z2 at *
      cases p <;> simp only [Bool.not_false, Bool.not_true, Bool.false_eq_true, if_false, if_true] at e1 e2 <;> exists v_has_red_pair_4, a1, a2, e1, e2
    · exists gB_t
  have hany : gAny (.ow (((L.map fun y => !cg cs y.1 && !cg cs y.2).map D.bl).map M.fz)) = some (.ex (.bl ((L.map fun y => !cg cs y.1 && !cg cs y.2).any id))) := by
    generalize (L.map fun y => !cg cs y.1 && !cg cs y.2) = bs
    show ((asB _).map fun bs => O.ex (.bl (bs.any id))) = _
    have : asB (.ow ((bs.map D.bl).map M.fz)) = some bs := by
      show (asL _).bind dbls = _
      have : asL (.ow ((bs.map D.bl).map M.fz)) = some (bs.map D.bl) := unfz_m _
      rw [this, Option.bind_some, dbls_map]
    rw [this]; rfl
  exists y_has_red_pair, e_has_red_pair, hs, e, frzs_fz, hcm, hany
end Lk29

set_option Elab.async false
set_option linter.all false
set_option maxRecDepth 100000
set_option maxHeartbeats 4000000
namespace Lk29
open PySem PySem.Spec PyProof.Rows L2 Dv
local macro_rules
  | `(tactic| exists $es:term,*) => `(tactic| simp (config := { implicitDefEqProofs := false }) only [$[$es:term],*, gB_t, fC_e, kV_0, kV_1, kV_2, fV_e, kFzA_0, kFz_0, kFz_1, fFz_e, kMvA_0, kMv_0, kMv_1, fMv_e, look_v, kJ_0, look_a, kO_0, kBin3b_0, kBin3_0, kBin2_0, kBin1_0, fBin_e, kTst_0, fTst_e, kCons2_0, kCons1_0, fCons_e, fNil_e, kLooks2_0, kLooks_0, looks_n, looks_c, kCall2_0, kCall1_0, fCall_e, kAf_0, allFz_n, allFz_c, kOwn_0, owns_n, owns_c, kTup2_0, kTup_0, fTup_e, kLst2_0, kLst_0, fLst_e, kAnd_0, kAnd_1, kOr_0, kOr_1, kNot_0, fAnd_e, fOr_e, fNot_e, kTru3_0, kTru2_0, kTru_0, fTru_e, kAndV_0, kAndV_1, kOrV_0, kOrV_1, kNotV_0, fAndV_e, fOrV_e, fNotV_e, kIfE_0, kIfE_1, fIf_e, kSeq_0, kSeq_1, kSeq_2, kSeq_3, fSeq_e, fPass_e, fRetN_e, fBreak_e, fCont_e, kExpr_0, fExpr_e, kRet_0, fRet_e, kIf_0, kIf_1, fIfS_e, kNx_0, kAsg_0, fAsg_e, gN_e, kPar_0, gPar_e, kPar3_0, gPar3_e, gTupl_e, gsNil_e, kGs_0, gsCons_e, gmNil_e, kGm_0, gmCons_e, kUnp2_0, kUnp_0, fUnp_e, kSet4_0, kSet3_0, kSet2_0, kSet1_0, gSet_e, kIsO_0, kMt6_0, kMt5_0, kMt4_0, kMt3_0, kMt2_0, kMt1_0, fMt_e, kCF3_0, kCF2_0, kCF1_0, fCallF_e, kLd_0, kLdA_0, lend_n, lend_v, lend_a, back_n, back_v, back_a, kPk2_0, kPk_0, pick_n, pick_c, kCK5_0, kCK4_0, kCK3_0, kCK2_0, kCK1_0, fCallK_e, kCh4_0, kCh3_0, kCh3_1, kCh2_0, kCh1_0, fCh_e, kSl4_0, kSl3_0, kSl2_0, kSl1_0, fSl_e, fONone_e, kOS_0, fOSome_e, kNeg_0, fNeg_e, kRl3_0, kRl2_0, kRl1_0, fRevL_e, kIsi2_0, kIsi1_0, fIsi_e, kIsj2_0, kIsj1_0, fIsi2_e, kR1_0, fR1_e, kR2b_0, kR2_0, fR2_e, kLRg_0, fLRg_e, kTRg_0, fTRg_e, kFor_0, fFor_e, kSI2_0, kSI1_0, fSeqI_e, kRg1_0, fRg1_e, kRg2_0, fRg2_e, kRg3_0, fRg3_e, kEn2_0, kEn1_0, fEnum_e, kEa1_0, fEnumA_e, kId2_0, kId1_0, fIdx_e, kCm2_0, kCm1_0, fComp_e, kCm1b_0, fComp2_e, wipe_n, wipe_c, fYes_e, kLs4_0, kLs3_0, kLs2_0, kLs1_0, fLenSet_e, kFn_0, kFn_1, cN_n, cN_c, oC_t, oC_f, oL_0, oL_1, outs_o, cK_n, cK_c, cond_true, cond_false, fnG_e, kW2_0, kW2_1, kW2_2, kW2_3, kW1_0, kW1_1, kL2_0, kL2_1, kL2_2, kL2_3, kL1_0, kC4_0, isi_NoneType_bool, isi_NoneType_int, isi_NoneType_str, isi_NoneType_tuple, isi_NoneType_list, isi_NoneType_dict, isi_bool_bool, isi_bool_int, isi_bool_str, isi_bool_tuple, isi_bool_list, isi_bool_dict, isi_int_bool, isi_int_int, isi_int_str, isi_int_tuple, isi_int_list, isi_int_dict, isi_str_bool, isi_str_int, isi_str_str, isi_str_tuple, isi_str_list, isi_str_dict, isi_tuple_bool, isi_tuple_int, isi_tuple_str, isi_tuple_tuple, isi_tuple_list, isi_tuple_dict, isi_list_bool, isi_list_int, isi_list_str, isi_list_tuple, isi_list_list, isi_list_dict, isi_dict_bool, isi_dict_int, isi_dict_str, isi_dict_tuple, isi_dict_list, isi_dict_dict, ex_m, nt_m, nl_m, frz_fz, frz_ow, s1_e, s2_e, sAdd_i, sSub_i, sMul_i, sDiv_i, sMod_i, sPow_i, sLt_i, sLe_i, sGt_i, sGe_i, nB_t, nB_f, sIs_n, sIs_b, isN_n, isN_t, isN_l, isN_r, isN_i, isN_b, isN_s, isN_o, sEq_i, sEq_b, sEq_o, sEq_l, sEq_t, sIn_te, sIn_le, kEx_0, sIx_t, sIx_l, sIx_r, kIx_0, sIx_o, unfz_n, unfz_c, unfz_m, at_0, at_1, at_2, at_3, gLen_t, gLen_l, gLen_r, gLen_o, gInt_i, gInt_b, gAbs_i, gMax2_i, gMin2_i, gList_t, gList_l, gTuple_l, gTuple_o, gTuple_t, isLs_o, isLs_l, isLs_r, tru_b, tru_i, sApp_e, sExt_t, sExt_l, ty_int, ty_bl, ty_non, ty_str, ty_tup, ty_lst, ty_rol, ty_ow, seqOf_l, seqOf_t, seqOf_r, frzs_fz, Dv.M.frz, Dv.M.frzs, List.getElem?_cons_zero, List.getElem?_cons_succ, List.set_cons_zero, List.set_cons_succ, List.map_cons, List.map_nil, List.replicate_succ, List.replicate_zero, List.cons_append, List.nil_append, List.append_nil, List.length_cons, List.length_nil, List.length_map, List.length_set, Nat.zero_add, Nat.add_zero, decide_true, decide_false, and_self, Bool.not_true, Bool.not_false, Bool.or_true, Bool.true_or, Bool.or_false, Bool.false_or, Bool.and_true, Bool.true_and, Bool.and_false, Bool.false_and, Nat.lt_add_left_iff_pos, Nat.zero_lt_succ, true_and, and_true, Nat.le_refl, Nat.lt_irrefl, List.isEmpty_nil, List.isEmpty_cons, Nat.reduceAdd, Nat.reduceSub, Nat.reduceLeDiff, Nat.reduceLT, Nat.reduceBEq, Nat.reduceEqDiff, Nat.reduceMul, Int.reduceNeg, Nat.le_add_left])
/-! ### what shows a coloring -/
inductive El where
  | c (b : Bool) | g | b (x : Bool)
def eE : El → D
  | .c b => cS b
  | .g => .str "green"
  | .b x => .bl x
def isc : El → Bool
  | .c _ => true
  | _ => false
theorem in_cS (n b : Bool) : sIn n (.fz (cS b)) (.fz (.tup [.str "red", .str "black"])) = some (.ex (.bl (!n))) := by
  cases n <;> cases b <;> kernel_rfl
theorem in_g (n : Bool) : sIn n (.fz (.str "green")) (.fz (.tup [.str "red", .str "black"])) = some (.ex (.bl n)) := by
  cases n <;> kernel_rfl
theorem isi_cS (T : String) (b : Bool) (ρ : Ev) (f : FE) (h : f ρ = some (.vl (.fz (cS b)), ρ)) : fIsi "str" f ρ = some (.vl (.fz (.bl true)), ρ) := by
  cases b <;> simp only [cS_1, cS_0] at h <;> exists h
def shown (t : Bt) (cs : List Bool) : Bool := match t with
  | .nil => true
  | .nd l _ => cg cs l.sz && (t.lb (cg cs) 0 true).isSome
theorem lshown_comp (B : Option M) (m : Option M) (V : Option M) (v : List El) (h : v.length ≤ 1000) :
    fCompL g__law_shown_1 t__law_shown_2 v__law_shown_3 [3] (v.map eE) [] [B, V, m, none] = some (((v.filter fun x => !isc x).map fun x => M.fz (eE x)), [B, V, m, none]) := by
  refine comp_alf eE _ _ _ (by omega) fun x hx => ?_
  refine ⟨[B, V, m, some (.fz (eE x))], [B, V, m, some (.fz (eE x))], ?_, ?_, fun _ => ?_, fun _ => ⟨[B, V, m, some (.fz (eE x))], ?_, ?_⟩⟩
  · exists g__law_shown_1
  · cases x with
    | c b =>
      have h1 := in_cS true b
      cases b <;> simp only [cS_1, cS_0, Bool.not_true] at h1 <;> exists t__law_shown_2, eE, isc, cS_1, cS_0, h1
    | g =>
      have h1 := in_g true
      exists t__law_shown_2, eE, isc, h1
    | b x => exists t__law_shown_2, eE, isc
  · exists gB_t
  · exists v__law_shown_3
  · exists gB_t
theorem lshown_e (v : List El) : ((v.filter fun x => !isc x).map fun x => M.fz (eE x)).isEmpty = v.all isc := by
  induction v with
  | nil => rfl
  | cons x v ih =>
    rw [List.filter_cons, List.all_cons]
    cases isc x with
    | true => simpa using ih
    | false => rfl
theorem shows_comp (B V : Option M) (v : List El) (h : v.length ≤ 1000) :
    fCompL g_shows_coloring_1 fYes v_shows_coloring_2 [2] (v.map eE) [] [B, V, none] = some (((v.map isc).map D.bl).map M.fz, [B, V, none]) := by
  have hmm : (v.map isc).map D.bl = v.map fun y => D.bl (isc y) := by rw [List.map_map]; rfl
  rw [hmm, ← mapmB v fun y => D.bl (isc y)]
  refine comp_al eE _ _ (by omega) fun x hx => ?_
  refine ⟨[B, V, some (.fz (eE x))], [B, V, some (.fz (eE x))], ?_, ?_, ?_⟩
  · exists g_shows_coloring_1
  · cases x with
    | c b =>
      have h1 := in_cS false b
      cases b <;> simp only [cS_1, cS_0, Bool.not_false] at h1 <;> exists v_shows_coloring_2, eE, isc, cS_1, cS_0, h1
    | g =>
      have h1 := in_g false
      exists v_shows_coloring_2, eE, isc, h1
    | b x => exists v_shows_coloring_2, eE, isc
  · exists gB_t
theorem gAll_bs (bs : List Bool) : gAll (.ow ((bs.map D.bl).map M.fz)) = some (.ex (.bl (bs.all id))) := by
  show ((asB _).map fun bs => O.ex (.bl (bs.all id))) = _
  have : asB (.ow ((bs.map D.bl).map M.fz)) = some bs := by
    show (asL _).bind dbls = _
    have : asL (.ow ((bs.map D.bl).map M.fz)) = some (bs.map D.bl) := unfz_m _
    rw [this, Option.bind_some, dbls_map]
  rw [this]; rfl
theorem gLenE (v : List El) : gLen (.fz (.tup (v.map eE))) = some (.ex (.int (v.length : Nat))) := by
  show some _ = some _; simp
theorem len_ne {a b : Nat} (h : a ≠ b) : ¬ ((a : Nat) : Int) = ((b : Nat) : Int) := by omega
/-- what is no tuple -/
theorem shown_no (t : Bt) (h : t.sz ≤ 12) (d : D) (hd : d = .non ∨ ∃ l, d = .lst l) :
    m_shows_coloring [.fz (eb t), .fz d] = some (.fz (.bl false), [none, none]) ∧ m__law_shown [.fz (eb t), .fz d] = some (.fz (.bl false), [none, none]) := by
  have hk := check_ok t h
  have hs := size_ok t 16 (by have := t.dep_le; omega)
  rcases hd with rfl | ⟨l, rfl⟩
  · constructor
    · exists y_shows_coloring, e_shows_coloring, hk
    · exists y__law_shown, e__law_shown, hs
  · constructor
    · exists y_shows_coloring, e_shows_coloring, hk
    · exists y__law_shown, e__law_shown, hs
/-- a tuple of another length, or with another thing -/
theorem shown_bad (t : Bt) (h : t.sz ≤ 12) (v : List El) (hv : v.length ≤ 100) (hb : v.length ≠ t.sz ∨ v.all isc = false) :
    m_shows_coloring [.fz (eb t), .fz (.tup (v.map eE))] = some (.fz (.bl false), [none, none]) ∧ m__law_shown [.fz (eb t), .fz (.tup (v.map eE))] = some (.fz (.bl false), [none, none]) := by
  have hk := check_ok t h
  have hd := t.dep_le
  have hs := size_ok t 16 (by omega)
  have hn := nodesin_ok t 16 (by omega)
  have hl := gLenE v
  by_cases c : v.length = t.sz
  · have hb : v.all isc = false := hb.resolve_left fun z => z c
    have c' : ((v.length : Nat) : Int) = ((t.sz : Nat) : Int) := by omega
    have h1 := shows_comp (some (.fz (eb t))) (some (.fz (.tup (v.map eE)))) v (by omega)
    have h2 := lshown_comp (some (.fz (eb t))) (some (.fz (.int (t.sz : Nat)))) (some (.fz (.tup (v.map eE)))) v (by omega)
    have h3 := lshown_e v
    have h4 := gAll_bs (v.map isc)
    have h5 : (v.map isc).all id = v.all isc := by rw [List.all_map]; rfl
    rw [h5, hb] at h4
    rw [hb] at h3
    generalize v.map isc = bs at *
    generalize ((v.filter fun x => !isc x).map fun x => M.fz (eE x)) = L at *
    generalize v.map eE = W at *
    constructor
    · exists y_shows_coloring, e_shows_coloring, hk, hl, hn, c', h1, h4
    · exists y__law_shown, e__law_shown, hs, hl, c', h2, h3
  · have c' := len_ne c
    generalize v.map eE = W at *
    constructor
    · exists y_shows_coloring, e_shows_coloring, hk, hl, hn, c'
    · exists y__law_shown, e__law_shown, hs, hl, c'
theorem isN_onD (o : Option Nat) : isN (.fz (onD o)) = o.isNone := by cases o <;> rfl
theorem rr_top (t : Bt) (cs : Nat → Bool) (f : Nat) : t.rr cs f true = false := by cases t <;> rfl
/-- a tuple of colors -/
theorem shown_good (t : Bt) (h : t.sz ≤ 12) (cs : List Bool) (hc : cs.length = t.sz) :
    m_shows_coloring [.fz (eb t), .fz (.tup (cs.map cS))] = some (.fz (.bl (shown t cs)), [none, none]) ∧ m__law_shown [.fz (eb t), .fz (.tup (cs.map cS))] = some (.fz (.bl (shown t cs)), [none, none]) := by
  have hk := check_ok t h
  have hd := t.dep_le
  have hs := size_ok t 16 (by omega)
  have hn := nodesin_ok t 16 (by omega)
  have hE : cs.map cS = (cs.map El.c).map eE := by rw [List.map_map]; rfl
  have hl : gLen (.fz (.tup (cs.map cS))) = some (.ex (.int (t.sz : Nat))) := by rw [hE, gLenE, List.length_map, hc]
  have h1 := shows_comp (some (.fz (eb t))) (some (.fz (.tup (cs.map cS)))) (cs.map El.c) (by simp; omega)
  have h2 := lshown_comp (some (.fz (eb t))) (some (.fz (.int (t.sz : Nat)))) (some (.fz (.tup (cs.map cS)))) (cs.map El.c) (by simp; omega)
  have h3 := lshown_e (cs.map El.c)
  have h4 := gAll_bs ((cs.map El.c).map isc)
  have h5 : ((cs.map El.c).map isc).all id = true := by rw [List.map_map, List.all_map]; simp [Function.comp_def, isc]
  have h6 : (cs.map El.c).all isc = true := by rw [List.all_map]; simp [Function.comp_def, isc]
  rw [h5] at h4
  rw [h6] at h3
  rw [← hE] at h1 h2
  generalize ((cs.map El.c).map isc) = bs at *
  generalize (((cs.map El.c).filter fun x => !isc x).map fun x => M.fz (eE x)) = L at *
  have hb := lblacks_ok t 16 0 cs true (by omega) (Nat.le_refl _) (by omega) (by omega) (by omega)
  have hb : m__law_blacks 16 [.fz (eb t), .fz (.tup (cs.map cS)), .fz (.int 0), .fz (.str "black")] = some (.fz (onD (t.lb (cg cs) 0 true)), [none, none, none, none]) := hb
  have hcd := countdown_ok t 16 cs (by omega) (Nat.le_refl _) hc (by omega)
  have hrp := redpair_ok t cs h hc
  have hlb := Bt.lb_cd t (cg cs) 0 true
  rw [rr_top, Bool.false_or] at hlb
  cases t with
  | nil =>
    have z : (((0 : Nat) : Int) = 0) := rfl
    simp only [Bt.sz, z] at hl hs hn h2
    have hl' : gLen (.fz (.tup (cs.map cS))) = some (.ex (.int 0)) := hl
    simp only [shown]
    generalize cs.map cS = W at *
    simp only [eb_0] at hk hs hn h1 h2 ⊢
    constructor
    · exists y_shows_coloring, e_shows_coloring, hk, hl', hn, h1, h4, z
    · exists y__law_shown, e__law_shown, hs, hl', h2, h3, z
  | nd l r =>
    have nz : ¬ (((Bt.nd l r).sz : Nat) : Int) = 0 := by simp only [Bt.sz]; omega
    have ha := at_c cs (i := l.sz) (by rw [hc]; simp only [Bt.sz]; omega)
    have hsl := size_ok l 16 (by simp only [Bt.sz] at h; have := l.dep_le; omega)
    have hnl := nodesin_ok l 16 (by simp only [Bt.sz] at h; have := l.dep_le; omega)
    have e1 := sEq_cb true (cg cs l.sz)
    have e2 := sEq_cb false (cg cs l.sz)
    simp only [shown]
    generalize (Bt.nd l r).sz = N at *
    generalize hx : (Bt.nd l r).lb (cg cs) 0 true = x at *
    generalize (Bt.nd l r).cd (cg cs) 0 = y at *
    generalize (Bt.nd l r).rp (cg cs) 0 = p at *
    simp only [eb_1] at hk hs hn h1 h2 hb hcd hrp ⊢
    generalize cs.map cS = W at *
    generalize cS (cg cs l.sz) = z at *
    generalize cg cs l.sz = c at *
    cases c with
    | false =>
      simp only [Bool.not_false, if_true, Bool.false_eq_true, if_false] at e1 e2
      constructor
      · exists y_shows_coloring, e_shows_coloring, hk, hl, hn, h1, h4, hnl, ha, e1
      · exists y__law_shown, e__law_shown, hs, hl, h2, h3, nz, hsl, ha, e2
    | true =>
      simp only [Bool.not_true, if_true, Bool.false_eq_true, if_false] at e1 e2
      cases p with
      | true =>
        simp only [if_true] at hlb
        subst hlb
        simp only [onD_0] at hb
        constructor
        · exists y_shows_coloring, e_shows_coloring, hk, hl, hn, h1, h4, hnl, ha, e1, hrp, Option.isSome_none
        · exists y__law_shown, e__law_shown, hs, hl, h2, h3, nz, hsl, ha, e2, hb, Option.isSome_none
      | false =>
        simp only [Bool.false_eq_true, if_false] at hlb
        subst hlb
        cases x with
        | none =>
          simp only [onD_0] at hb hcd
          constructor
          · exists y_shows_coloring, e_shows_coloring, hk, hl, hn, h1, h4, hnl, ha, e1, hrp, hcd, Option.isSome_none
          · exists y__law_shown, e__law_shown, hs, hl, h2, h3, nz, hsl, ha, e2, hb, Option.isSome_none
        | some a =>
          simp only [onD_1] at hb hcd
          constructor
          · exists y_shows_coloring, e_shows_coloring, hk, hl, hn, h1, h4, hnl, ha, e1, hrp, hcd, Option.isSome_some
          · exists y__law_shown, e__law_shown, hs, hl, h2, h3, nz, hsl, ha, e2, hb, Option.isSome_some
/-- the program's own coloring shows -/
theorem clg_shown {t : Bt} {cs : List Bool} (h : clg t = some cs) : cs.length = t.sz ∧ shown t cs = true := by
  unfold clg at h
  cases hc : t.flt with
  | some i => rw [hc] at h; cases h
  | none =>
    rw [hc] at h
    cases h
    have ho := (Bt.flt_none t).mp hc
    have hh := Bt.okc_ht ho
    refine ⟨Bt.col_len _ _ _, ?_⟩
    have hl := Bt.col_ok t ((t.ht + 1) / 2) true true ho (fun _ => by omega) (by simp)
    cases t with
    | nil => rfl
    | nd l r =>
      have hcg : cg (Bt.col (.nd l r) (((Bt.nd l r).ht + 1) / 2) true) = fun i => (Bt.col (.nd l r) (((Bt.nd l r).ht + 1) / 2) true).getD i true := rfl
      rw [← hcg] at hl
      simp only [shown, hl, Option.isSome_some, Bool.and_true]
      generalize ((Bt.nd l r).ht + 1) / 2 = n
      unfold cg
      simp only [Bt.col]
      rw [List.getD_eq_getElem?_getD, List.getElem?_append_right (by rw [Bt.col_len]; omega), Bt.col_len]
      simp
end Lk29

set_option Elab.async false
set_option linter.all false
set_option maxRecDepth 100000
set_option maxHeartbeats 4000000
namespace Lk29
open PySem PySem.Spec PyProof.Rows L2 Dv
local macro_rules
  | `(tactic| exists $es:term,*) => `(tactic| simp (config := { implicitDefEqProofs := false }) only [$[$es:term],*, gB_t, fC_e, kV_0, kV_1, kV_2, fV_e, kFzA_0, kFz_0, kFz_1, fFz_e, kMvA_0, kMv_0, kMv_1, fMv_e, look_v, kJ_0, look_a, kO_0, kBin3b_0, kBin3_0, kBin2_0, kBin1_0, fBin_e, kTst_0, fTst_e, kCons2_0, kCons1_0, fCons_e, fNil_e, kLooks2_0, kLooks_0, looks_n, looks_c, kCall2_0, kCall1_0, fCall_e, kAf_0, allFz_n, allFz_c, kOwn_0, owns_n, owns_c, kTup2_0, kTup_0, fTup_e, kLst2_0, kLst_0, fLst_e, kAnd_0, kAnd_1, kOr_0, kOr_1, kNot_0, fAnd_e, fOr_e, fNot_e, kTru3_0, kTru2_0, kTru_0, fTru_e, kAndV_0, kAndV_1, kOrV_0, kOrV_1, kNotV_0, fAndV_e, fOrV_e, fNotV_e, kIfE_0, kIfE_1, fIf_e, kSeq_0, kSeq_1, kSeq_2, kSeq_3, fSeq_e, fPass_e, fRetN_e, fBreak_e, fCont_e, kExpr_0, fExpr_e, kRet_0, fRet_e, kIf_0, kIf_1, fIfS_e, kNx_0, kAsg_0, fAsg_e, gN_e, kPar_0, gPar_e, kPar3_0, gPar3_e, gTupl_e, gsNil_e, kGs_0, gsCons_e, gmNil_e, kGm_0, gmCons_e, kUnp2_0, kUnp_0, fUnp_e, kSet4_0, kSet3_0, kSet2_0, kSet1_0, gSet_e, kIsO_0, kMt6_0, kMt5_0, kMt4_0, kMt3_0, kMt2_0, kMt1_0, fMt_e, kCF3_0, kCF2_0, kCF1_0, fCallF_e, kLd_0, kLdA_0, lend_n, lend_v, lend_a, back_n, back_v, back_a, kPk2_0, kPk_0, pick_n, pick_c, kCK5_0, kCK4_0, kCK3_0, kCK2_0, kCK1_0, fCallK_e, kCh4_0, kCh3_0, kCh3_1, kCh2_0, kCh1_0, fCh_e, kSl4_0, kSl3_0, kSl2_0, kSl1_0, fSl_e, fONone_e, kOS_0, fOSome_e, kNeg_0, fNeg_e, kRl3_0, kRl2_0, kRl1_0, fRevL_e, kIsi2_0, kIsi1_0, fIsi_e, kIsj2_0, kIsj1_0, fIsi2_e, kR1_0, fR1_e, kR2b_0, kR2_0, fR2_e, kLRg_0, fLRg_e, kTRg_0, fTRg_e, kFor_0, fFor_e, kSI2_0, kSI1_0, fSeqI_e, kRg1_0, fRg1_e, kRg2_0, fRg2_e, kRg3_0, fRg3_e, kEn2_0, kEn1_0, fEnum_e, kEa1_0, fEnumA_e, kId2_0, kId1_0, fIdx_e, kCm2_0, kCm1_0, fComp_e, kCm1b_0, fComp2_e, wipe_n, wipe_c, fYes_e, kLs4_0, kLs3_0, kLs2_0, kLs1_0, fLenSet_e, kFn_0, kFn_1, cN_n, cN_c, oC_t, oC_f, oL_0, oL_1, outs_o, cK_n, cK_c, cond_true, cond_false, fnG_e, kW2_0, kW2_1, kW2_2, kW2_3, kW1_0, kW1_1, kL2_0, kL2_1, kL2_2, kL2_3, kL1_0, kC4_0, isi_NoneType_bool, isi_NoneType_int, isi_NoneType_str, isi_NoneType_tuple, isi_NoneType_list, isi_NoneType_dict, isi_bool_bool, isi_bool_int, isi_bool_str, isi_bool_tuple, isi_bool_list, isi_bool_dict, isi_int_bool, isi_int_int, isi_int_str, isi_int_tuple, isi_int_list, isi_int_dict, isi_str_bool, isi_str_int, isi_str_str, isi_str_tuple, isi_str_list, isi_str_dict, isi_tuple_bool, isi_tuple_int, isi_tuple_str, isi_tuple_tuple, isi_tuple_list, isi_tuple_dict, isi_list_bool, isi_list_int, isi_list_str, isi_list_tuple, isi_list_list, isi_list_dict, isi_dict_bool, isi_dict_int, isi_dict_str, isi_dict_tuple, isi_dict_list, isi_dict_dict, ex_m, nt_m, nl_m, frz_fz, frz_ow, s1_e, s2_e, sAdd_i, sSub_i, sMul_i, sDiv_i, sMod_i, sPow_i, sLt_i, sLe_i, sGt_i, sGe_i, nB_t, nB_f, sIs_n, sIs_b, isN_n, isN_t, isN_l, isN_r, isN_i, isN_b, isN_s, isN_o, sEq_i, sEq_b, sEq_o, sEq_l, sEq_t, sIn_te, sIn_le, kEx_0, sIx_t, sIx_l, sIx_r, kIx_0, sIx_o, unfz_n, unfz_c, unfz_m, at_0, at_1, at_2, at_3, gLen_t, gLen_l, gLen_r, gLen_o, gInt_i, gInt_b, gAbs_i, gMax2_i, gMin2_i, gList_t, gList_l, gTuple_l, gTuple_o, gTuple_t, isLs_o, isLs_l, isLs_r, tru_b, tru_i, sApp_e, sExt_t, sExt_l, ty_int, ty_bl, ty_non, ty_str, ty_tup, ty_lst, ty_rol, ty_ow, seqOf_l, seqOf_t, seqOf_r, frzs_fz, Dv.M.frz, Dv.M.frzs, List.getElem?_cons_zero, List.getElem?_cons_succ, List.set_cons_zero, List.set_cons_succ, List.map_cons, List.map_nil, List.replicate_succ, List.replicate_zero, List.cons_append, List.nil_append, List.append_nil, List.length_cons, List.length_nil, List.length_map, List.length_set, Nat.zero_add, Nat.add_zero, decide_true, decide_false, and_self, Bool.not_true, Bool.not_false, Bool.or_true, Bool.true_or, Bool.or_false, Bool.false_or, Bool.and_true, Bool.true_and, Bool.and_false, Bool.false_and, Nat.lt_add_left_iff_pos, Nat.zero_lt_succ, true_and, and_true, Nat.le_refl, Nat.lt_irrefl, List.isEmpty_nil, List.isEmpty_cons, Nat.reduceAdd, Nat.reduceSub, Nat.reduceLeDiff, Nat.reduceLT, Nat.reduceBEq, Nat.reduceEqDiff, Nat.reduceMul, Int.reduceNeg, Nat.le_add_left])
/-! ### one tree asked -/
def eW (s : Bt) : D := .tup [.int (s.ht : Nat), .int (s.lo : Nat)]
theorem badW (s : Bt) : decide ((2 : Int) * ((s.lo : Nat) : Int) < ((s.ht : Nat) : Int)) = Bt.bad s := by
  by_cases c : 2 * s.lo < s.ht
  · have h : Bt.bad s = true := decide_eq_true c
    rw [h, decide_eq_true (by omega)]
  · have h : Bt.bad s = false := decide_eq_false c
    rw [h, decide_eq_false (by omega)]
theorem isN_int (i : Int) : isN (.fz (.int i)) = false := rfl
theorem rows_loop (B N s4 s6 s7 s8 s9 sa sb : Option M) (l : List Bt) (hl : l.length ≤ 1000) :
    ∃ s5, fLoop g__law_tree_right_3 l__law_tree_right_4 (rgD 0 l.length) [B, N, some (.fz (.lst (l.map eW))), some (.fz .non), s4, none, s6, s7, s8, s9, sa, sb] = some (.nx [B, N, some (.fz (.lst (l.map eW))), some (.fz (onD (l.findIdx? Bt.bad))), s4, s5, s6, s7, s8, s9, sa, sb]) := by
  obtain ⟨ρ', e, s5, h⟩ := loop_inv (g := g__law_tree_right_3) (body := l__law_tree_right_4) (fun i ρ => ∃ s5, ρ = [B, N, some (.fz (.lst (l.map eW))), some (.fz (onD ((l.take i).findIdx? Bt.bad))), s4, s5, s6, s7, s8, s9, sa, sb]) (rgD 0 l.length) 0 [B, N, some (.fz (.lst (l.map eW))), some (.fz .non), s4, none, s6, s7, s8, s9, sa, sb] ⟨none, by rw [List.take_zero, List.findIdx?_nil]; rfl⟩ (fun i ρ d hd ⟨s5, hρ⟩ => by
    obtain ⟨hi, rfl⟩ := rgD_get hd
    subst hρ
    rw [Nat.zero_add]
    have hz : (0 : Int) + ((i : Nat) : Int) = ((i : Nat) : Int) := by omega
    rw [hz]
    have ha : atI (l.map eW) ((i : Nat) : Int) = some (eW l[i]) := by
      rw [atI_get' (by simpa using hi)]; simp
    have hb := badW l[i]
    have htk : (l.take (i + 1)).findIdx? Bt.bad = ((l.take i).findIdx? Bt.bad).or (if Bt.bad l[i] = true then some i else none) := by
      rw [List.take_add_one, List.findIdx?_append]
      have : l[i]?.toList = [l[i]] := by simp [hi]
      rw [this]
      have hm : min i l.length = i := by omega
      cases (l.take i).findIdx? Bt.bad with
      | some j => rfl
      | none => cases hq : Bt.bad l[i] <;> simp [List.findIdx?_cons, hm, hq]
    refine ⟨[B, N, some (.fz (.lst (l.map eW))), some (.fz (onD ((l.take i).findIdx? Bt.bad))), s4, some (.fz (.int (i : Nat))), s6, s7, s8, s9, sa, sb], [B, N, some (.fz (.lst (l.map eW))), some (.fz (onD ((l.take (i + 1)).findIdx? Bt.bad))), s4, some (.fz (.int (i : Nat))), s6, s7, s8, s9, sa, sb], ?_, .inl ?_, ⟨_, rfl⟩⟩
    · exists g__law_tree_right_3
    · rw [htk]
      generalize l[i] = s at *
      generalize (l.take i).findIdx? Bt.bad = o
      generalize l.map eW = W at *
      cases o with
      | some j => exists l__law_tree_right_4, onD_1, Option.some_or
      | none =>
        cases hc : Bt.bad s with
        | true =>
          rw [hc] at hb
          exists l__law_tree_right_4, onD_0, onD_1, Option.none_or, if_true, ha, eW, okM2, hb
        | false =>
          rw [hc] at hb
          exists l__law_tree_right_4, onD_0, onD_1, Option.none_or, Bool.false_eq_true, if_false, ha, eW, okM2, hb)
  refine ⟨s5, ?_⟩
  rw [e, h, rgD_len, Nat.zero_add, List.take_length]
theorem okOn (o : Option Nat) (k : Nat) : Ok (k + 1) (onD o) := by cases o <;> trivial
theorem okNm (t : Bt) (h : t.sz ≤ 12) (k : Nat) : Ok (k + 2) (.tup (nmb t)) := by
  have b1 := t.lo_ht
  have b2 := t.ht_sz
  unfold nmb
  cases t.flt with
  | some i => exact ⟨by simp, fun e he => by simp at he⟩
  | none =>
    refine ⟨by rw [rgD_len]; omega, fun e he => ?_⟩
    unfold rgD at he
    obtain ⟨i, _, rfl⟩ := List.mem_map.mp he
    trivial
theorem okCs (b : Bool) (k : Nat) : Ok (k + 1) (cS b) := by cases b <;> (show Str.length _ ≤ 5000; decide)
theorem okOc (o : Option (List Bool)) (k : Nat) (h : ∀ cs, o = some cs → cs.length ≤ 100) : Ok (k + 2) (ocD o) := by
  cases o with
  | none => trivial
  | some cs =>
    refine ⟨by have := h cs rfl; simp; omega, fun e he => ?_⟩
    obtain ⟨b, _, rfl⟩ := List.mem_map.mp he
    exact okCs b k
theorem une_none (t : Bt) : t.nds.any Bt.une = (Bt.fst Bt.une t).isSome := by
  unfold Bt.fst
  generalize t.nds = l
  cases h : l.findIdx? Bt.une with
  | none =>
    rw [List.findIdx?_eq_none_iff] at h
    simp only [Option.isSome_none, List.any_eq_false]
    exact fun x hx => by rw [h x hx]; simp
  | some i =>
    obtain ⟨h1, h2, h3⟩ := List.findIdx?_eq_some_iff_getElem.mp h
    simp only [Option.isSome_some, List.any_eq_true]
    exact ⟨l[i], List.getElem_mem _, h2⟩
theorem tree_right (t : Bt) (h : t.sz ≤ 12) (nm : Bool) : m__law_tree_right [.fz (eb t), .fz (.bl nm)] = some (.fz (.bl true), [none, none]) := by
  have hd := t.dep_le
  have hnl := t.nds_len
  have hn := lnodes_ok t 16 (by omega) (by omega)
  have hw := ways_ok t 16 (by omega)
  have hbr := break_ok t h
  have hbh := blackh_ok t h
  have hht := binheight_ok t h
  have hcg := coloring_ok t h
  have hun := uneven_ok t h
  have hlu := luneven_ok t h
  rw [une_none] at hlu
  have hc1 : fCompL g__law_tree_right_1 fYes v__law_tree_right_2 [4] (t.nds.map eb) [] [some (.fz (eb t)), some (.fz (.bl nm)), none, none, none, none, none, none, none, none, none, none] = some ((t.nds.map eW).map M.fz, [some (.fz (eb t)), some (.fz (.bl nm)), none, none, none, none, none, none, none, none, none, none]) := by
    rw [← mapmB t.nds eW]
    refine comp_al eb _ _ (by omega) fun s hs => ?_
    have hz := t.nds_sz s hs
    have h1 := ways_ok s 16 (by have := s.dep_le; omega)
    refine ⟨[some (.fz (eb t)), some (.fz (.bl nm)), none, none, some (.fz (eb s)), none, none, none, none, none, none, none], [some (.fz (eb t)), some (.fz (.bl nm)), none, none, some (.fz (eb s)), none, none, none, none, none, none, none], ?_, ?_, ?_⟩
    · exists g__law_tree_right_1
    · exists v__law_tree_right_2, h1, eW
    · exists gB_t
  obtain ⟨s5, hlp⟩ := rows_loop (some (.fz (eb t))) (some (.fz (.bl nm))) none none none none none none none t.nds (by omega)
  have hfl : t.nds.findIdx? Bt.bad = t.flt := rfl
  rw [hfl] at hlp
  have hlen : gLen (.fz (.lst (t.nds.map eW))) = some (.ex (.int (t.nds.length : Nat))) := by show some _ = some _; simp
  have hr := inRn (n := t.nds.length) (by omega)
  have hz : ((t.nds.length : Nat) : Int).toNat = t.nds.length := by omega
  have b1 := t.lo_ht
  have b2 := t.ht_sz
  have i1 : inR2 (((t.ht + 1) / 2 : Nat) : Int) ((t.lo + 1 : Nat) : Int) = true := by unfold inR2; simp; omega
  have hlog : (2 : Int).natAbs.log2 < 9000 := by decide +kernel
  have z2 : (0 : Int) < 2 := by decide
  have hrn := rgN ((t.ht + 1) / 2) (t.lo + 1)
  have hs1 := same_ok 16 (.lst [onD t.flt, .tup (nmb t)]) ⟨by simp, fun e he => by
    rcases List.mem_cons.mp he with rfl | he
    · exact okOn _ _
    · rw [List.mem_singleton.mp he]; exact okNm t h _⟩
  have hs2 := same_ok 16 (.int (t.ht : Nat)) trivial
  have hs4 := same_ok 16 (.bl true) trivial
  have hsf := same_ok 16 (.bl false) trivial
  have hs3 := same_ok 16 (ocD (clg t)) (okOc _ _ fun cs hc => by have := (clg_shown hc).1; omega)
  generalize t.nds.length = nl at *
  generalize t.nds.map eW = W at *
  generalize t.nds.map eb = Q at *
  cases hf : t.flt with
  | none =>
    obtain ⟨cs, hcs⟩ : ∃ cs, clg t = some cs := by unfold clg; rw [hf]; exact ⟨_, rfl⟩
    obtain ⟨q1, q2⟩ := clg_shown hcs
    obtain ⟨g1, g2⟩ := shown_good t h cs q1
    rw [q2] at g1 g2
    rw [hcs, ocD_1] at hcg hs3
    have hnm : nmb t = rgD (((t.ht + 1) / 2 : Nat) : Int) (t.lo + 1 - (t.ht + 1) / 2) := by unfold nmb; rw [hf]
    rw [hf, hnm, onD_0] at hs1
    rw [hnm] at hbh
    rw [hf, onD_0] at hbr hlp
    generalize cs.map cS = C at *
    generalize hR : rgD (((t.ht + 1) / 2 : Nat) : Int) (t.lo + 1 - (t.ht + 1) / 2) = R at *
    generalize ht : eb t = T at *
    cases hu : Bt.fst Bt.une t with
    | none =>
      rw [hu] at hlu
      rw [hu, onD_0] at hun
      simp only [Option.isSome_none] at hlu
      cases nm <;> exists y__law_tree_right, e__law_tree_right, hn, hw, hc1, hlen, hr, hz, hlp, half1, ad1, i1, hlog, z2, hrn, hR, hbr, hbh, hs1, hs2, hs3, hs4, hht, hcg, g1, g2, hun, hlu
    | some j =>
      rw [hu] at hlu
      rw [hu, onD_1] at hun
      simp only [Option.isSome_some] at hlu
      cases nm <;> exists y__law_tree_right, e__law_tree_right, hn, hw, hc1, hlen, hr, hz, hlp, half1, ad1, i1, hlog, z2, hrn, hR, hbr, hbh, hs1, hs2, hs3, hs4, hsf, hht, hcg, g1, g2, hun, hlu
  | some i =>
    have hcs : clg t = none := by unfold clg; rw [hf]
    rw [hcs, ocD_0] at hcg hs3
    have hnm : nmb t = [] := by unfold nmb; rw [hf]
    rw [hf, hnm, onD_1] at hs1
    rw [hnm] at hbh
    rw [hf, onD_1] at hbr hlp
    cases hu : Bt.fst Bt.une t with
    | none =>
      exfalso
      have h1 := hu
      unfold Bt.fst at h1
      rw [List.findIdx?_eq_none_iff] at h1
      have := (Bt.flt_none t).mpr (Bt.even_ok t h1)
      rw [hf] at this
      cases this
    | some j =>
      rw [hu] at hlu
      rw [hu, onD_1] at hun
      simp only [Option.isSome_some] at hlu
      generalize ht : eb t = T at *
      cases nm <;> exists y__law_tree_right, e__law_tree_right, hn, hw, hc1, hlen, hr, hz, hlp, hbr, hbh, hs1, hs2, hs3, hs4, hsf, hht, hcg, hun, hlu
end Lk29

set_option Elab.async false
set_option linter.all false
set_option maxRecDepth 100000
set_option maxHeartbeats 4000000
namespace Lk29
open PySem PySem.Spec PyProof.Rows L2 Dv
local macro_rules
  | `(tactic| exists $es:term,*) => `(tactic| simp (config := { implicitDefEqProofs := false }) only [$[$es:term],*, gB_t, fC_e, kV_0, kV_1, kV_2, fV_e, kFzA_0, kFz_0, kFz_1, fFz_e, kMvA_0, kMv_0, kMv_1, fMv_e, look_v, kJ_0, look_a, kO_0, kBin3b_0, kBin3_0, kBin2_0, kBin1_0, fBin_e, kTst_0, fTst_e, kCons2_0, kCons1_0, fCons_e, fNil_e, kLooks2_0, kLooks_0, looks_n, looks_c, kCall2_0, kCall1_0, fCall_e, kAf_0, allFz_n, allFz_c, kOwn_0, owns_n, owns_c, kTup2_0, kTup_0, fTup_e, kLst2_0, kLst_0, fLst_e, kAnd_0, kAnd_1, kOr_0, kOr_1, kNot_0, fAnd_e, fOr_e, fNot_e, kTru3_0, kTru2_0, kTru_0, fTru_e, kAndV_0, kAndV_1, kOrV_0, kOrV_1, kNotV_0, fAndV_e, fOrV_e, fNotV_e, kIfE_0, kIfE_1, fIf_e, kSeq_0, kSeq_1, kSeq_2, kSeq_3, fSeq_e, fPass_e, fRetN_e, fBreak_e, fCont_e, kExpr_0, fExpr_e, kRet_0, fRet_e, kIf_0, kIf_1, fIfS_e, kNx_0, kAsg_0, fAsg_e, gN_e, kPar_0, gPar_e, kPar3_0, gPar3_e, gTupl_e, gsNil_e, kGs_0, gsCons_e, gmNil_e, kGm_0, gmCons_e, kUnp2_0, kUnp_0, fUnp_e, kSet4_0, kSet3_0, kSet2_0, kSet1_0, gSet_e, kIsO_0, kMt6_0, kMt5_0, kMt4_0, kMt3_0, kMt2_0, kMt1_0, fMt_e, kCF3_0, kCF2_0, kCF1_0, fCallF_e, kLd_0, kLdA_0, lend_n, lend_v, lend_a, back_n, back_v, back_a, kPk2_0, kPk_0, pick_n, pick_c, kCK5_0, kCK4_0, kCK3_0, kCK2_0, kCK1_0, fCallK_e, kCh4_0, kCh3_0, kCh3_1, kCh2_0, kCh1_0, fCh_e, kSl4_0, kSl3_0, kSl2_0, kSl1_0, fSl_e, fONone_e, kOS_0, fOSome_e, kNeg_0, fNeg_e, kRl3_0, kRl2_0, kRl1_0, fRevL_e, kIsi2_0, kIsi1_0, fIsi_e, kIsj2_0, kIsj1_0, fIsi2_e, kR1_0, fR1_e, kR2b_0, kR2_0, fR2_e, kLRg_0, fLRg_e, kTRg_0, fTRg_e, kFor_0, fFor_e, kSI2_0, kSI1_0, fSeqI_e, kRg1_0, fRg1_e, kRg2_0, fRg2_e, kRg3_0, fRg3_e, kEn2_0, kEn1_0, fEnum_e, kEa1_0, fEnumA_e, kId2_0, kId1_0, fIdx_e, kCm2_0, kCm1_0, fComp_e, kCm1b_0, fComp2_e, wipe_n, wipe_c, fYes_e, kLs4_0, kLs3_0, kLs2_0, kLs1_0, fLenSet_e, kFn_0, kFn_1, cN_n, cN_c, oC_t, oC_f, oL_0, oL_1, outs_o, cK_n, cK_c, cond_true, cond_false, fnG_e, kW2_0, kW2_1, kW2_2, kW2_3, kW1_0, kW1_1, kL2_0, kL2_1, kL2_2, kL2_3, kL1_0, kC4_0, isi_NoneType_bool, isi_NoneType_int, isi_NoneType_str, isi_NoneType_tuple, isi_NoneType_list, isi_NoneType_dict, isi_bool_bool, isi_bool_int, isi_bool_str, isi_bool_tuple, isi_bool_list, isi_bool_dict, isi_int_bool, isi_int_int, isi_int_str, isi_int_tuple, isi_int_list, isi_int_dict, isi_str_bool, isi_str_int, isi_str_str, isi_str_tuple, isi_str_list, isi_str_dict, isi_tuple_bool, isi_tuple_int, isi_tuple_str, isi_tuple_tuple, isi_tuple_list, isi_tuple_dict, isi_list_bool, isi_list_int, isi_list_str, isi_list_tuple, isi_list_list, isi_list_dict, isi_dict_bool, isi_dict_int, isi_dict_str, isi_dict_tuple, isi_dict_list, isi_dict_dict, ex_m, nt_m, nl_m, frz_fz, frz_ow, s1_e, s2_e, sAdd_i, sSub_i, sMul_i, sDiv_i, sMod_i, sPow_i, sLt_i, sLe_i, sGt_i, sGe_i, nB_t, nB_f, sIs_n, sIs_b, isN_n, isN_t, isN_l, isN_r, isN_i, isN_b, isN_s, isN_o, sEq_i, sEq_b, sEq_o, sEq_l, sEq_t, sIn_te, sIn_le, kEx_0, sIx_t, sIx_l, sIx_r, kIx_0, sIx_o, unfz_n, unfz_c, unfz_m, at_0, at_1, at_2, at_3, gLen_t, gLen_l, gLen_r, gLen_o, gInt_i, gInt_b, gAbs_i, gMax2_i, gMin2_i, gList_t, gList_l, gTuple_l, gTuple_o, gTuple_t, isLs_o, isLs_l, isLs_r, tru_b, tru_i, sApp_e, sExt_t, sExt_l, ty_int, ty_bl, ty_non, ty_str, ty_tup, ty_lst, ty_rol, ty_ow, seqOf_l, seqOf_t, seqOf_r, frzs_fz, Dv.M.frz, Dv.M.frzs, List.getElem?_cons_zero, List.getElem?_cons_succ, List.set_cons_zero, List.set_cons_succ, List.map_cons, List.map_nil, List.replicate_succ, List.replicate_zero, List.cons_append, List.nil_append, List.append_nil, List.length_cons, List.length_nil, List.length_map, List.length_set, Nat.zero_add, Nat.add_zero, decide_true, decide_false, and_self, Bool.not_true, Bool.not_false, Bool.or_true, Bool.true_or, Bool.or_false, Bool.false_or, Bool.and_true, Bool.true_and, Bool.and_false, Bool.false_and, Nat.lt_add_left_iff_pos, Nat.zero_lt_succ, true_and, and_true, Nat.le_refl, Nat.lt_irrefl, List.isEmpty_nil, List.isEmpty_cons, Nat.reduceAdd, Nat.reduceSub, Nat.reduceLeDiff, Nat.reduceLT, Nat.reduceBEq, Nat.reduceEqDiff, Nat.reduceMul, Int.reduceNeg, Nat.le_add_left])
/-! ### rows of colors asked -/
def P (t : Bt) (d : D) : Prop := ∃ b, m_shows_coloring [.fz (eb t), .fz d] = some (.fz (.bl b), [none, none]) ∧ m__law_shown [.fz (eb t), .fz d] = some (.fz (.bl b), [none, none])
theorem P_no (t : Bt) (h : t.sz ≤ 12) (d : D) (hd : d = .non ∨ ∃ l, d = .lst l) : P t d := ⟨false, shown_no t h d hd⟩
theorem P_tup (t : Bt) (h : t.sz ≤ 12) (v : List El) (hv : v.length ≤ 100) : P t (.tup (v.map eE)) := by
  by_cases hb : v.length ≠ t.sz ∨ v.all isc = false
  · exact ⟨false, shown_bad t h v hv hb⟩
  · have h1 : v.length = t.sz := Decidable.byContradiction fun c => hb (.inl c)
    have h2 : v.all isc = true := by
      cases hc : v.all isc with
      | true => rfl
      | false => exact absurd (.inr hc) hb
    have : ∃ cs : List Bool, v = cs.map El.c := by
      clear h1 hb hv
      induction v with
      | nil => exact ⟨[], rfl⟩
      | cons x v ih =>
        rw [List.all_cons, Bool.and_eq_true] at h2
        obtain ⟨cs, rfl⟩ := ih h2.2
        cases x with
        | c b => exact ⟨b :: cs, rfl⟩
        | g => exact absurd h2.1 (by simp [isc])
        | b x => exact absurd h2.1 (by simp [isc])
    obtain ⟨cs, rfl⟩ := this
    rw [List.length_map] at h1
    have := shown_good t h cs h1
    have e : (cs.map El.c).map eE = cs.map cS := by rw [List.map_map]; rfl
    exact ⟨shown t cs, by rw [e]; exact this.1, by rw [e]; exact this.2⟩
theorem P_cs (t : Bt) (h : t.sz ≤ 12) (cs : List Bool) (hv : cs.length ≤ 100) : P t (.tup (cs.map cS)) := by
  have e : cs.map cS = (cs.map El.c).map eE := by rw [List.map_map]; rfl
  rw [e]; exact P_tup t h _ (by simpa using hv)
theorem flat_rep {α : Type} (x : α) (n : Nat) : (List.replicate n [x]).flatten = List.replicate n x := by
  induction n with
  | zero => rfl
  | succ n ih => rw [List.replicate_succ, List.flatten_cons, ih]; rfl
theorem mul_l (n : Nat) (h : n ≤ 100) : sMul (.ow [.fz (.str "black")]) (.fz (.int (n : Nat))) = some (.nl ((List.replicate n true).map cS)) := by
  show ((asLH (.ow [.fz (.str "black")])).bind fun l => if (decide (((n : Nat) : Int) ≤ 100000) && decide (-100000 ≤ ((n : Nat) : Int)) && decide (l.length * ((n : Nat) : Int).toNat ≤ 100000)) = true then some (O.nl (List.replicate ((n : Nat) : Int).toNat l).flatten) else none) = _
  have : asLH (.ow [.fz (.str "black")]) = some [.str "black"] := rfl
  rw [this, Option.bind_some, if_pos (by simp; omega), Int.toNat_natCast, flat_rep, List.map_replicate]
  rfl
theorem mul_t (n : Nat) (h : n ≤ 100) : ∃ o, sMul (.fz (.tup [.str "black"])) (.fz (.int ((n + 1 : Nat) : Int))) = some o ∧ o.m = .fz (.tup ((List.replicate (n + 1) true).map cS)) := by
  have e : sMul (.fz (.tup [.str "black"])) (.fz (.int ((n + 1 : Nat) : Int))) = if (decide (((n + 1 : Nat) : Int) = 1) || [D.str "black"].isEmpty) && decide (-1000 ≤ ((n + 1 : Nat) : Int)) && decide (((n + 1 : Nat) : Int) ≤ 1000) then some (.ex (.tup [D.str "black"])) else if decide (2 ≤ ((n + 1 : Nat) : Int)) && decide (((n + 1 : Nat) : Int) ≤ 1000) && decide ([D.str "black"].length ≤ 1000) && ![D.str "black"].isEmpty then some (.nt (List.replicate ((n + 1 : Nat) : Int).toNat [D.str "black"]).flatten) else none := rfl
  rw [e]
  by_cases c : n = 0
  · subst c
    exact ⟨_, rfl, rfl⟩
  · rw [if_neg (by simp; omega), if_pos (by simp; omega)]
    refine ⟨_, rfl, ?_⟩
    rw [Int.toNat_natCast, flat_rep, List.map_replicate]
    rfl
theorem s1_ok (t : Bt) (h : t.sz ≤ 12) (B N : Option M) : s__law_colors_right_1 [B, some (.fz (eb t)), N, none, none, none, none, none, none, none, none, none, none] = some (.nx [B, some (.fz (eb t)), N, some (.fz (ocD (clg t))), some (.fz (.int (t.sz : Nat))), none, none, none, none, none, none, none, none]) := by
  have hc := coloring_ok t h
  have hs := size_ok t 16 (by have := t.dep_le; omega)
  exists s__law_colors_right_1, hc, hs
theorem rand_ok {k : Int} {l : List M} (T N C Mn : Option M) (n : Nat) (h : Bx k (.ow l)) (hn : n ≤ 100) (hk : k + n ≤ 1000000) :
    ∃ (cs : List Bool) (l' : List M), fCompL g__law_colors_right_1 fYes v__law_colors_right_2 [6] (rgD 0 n) [] [some (.ow l), T, N, C, Mn, none, none, none, none, none, none, none, none] = some ((cs.map cS).map M.fz, [some (.ow l'), T, N, C, Mn, none, none, none, none, none, none, none, none]) ∧ cs.length = n ∧ Bx (k + n) (.ow l') := by
  obtain ⟨out, ρ', e, cs, l', rfl, rfl, hz, hx⟩ := comp_st (g := g__law_colors_right_1) (fe := v__law_colors_right_2) (vs := [6])
    (fun i ρ acc => ∃ (cs : List Bool) (l' : List M), ρ = [some (.ow l'), T, N, C, Mn, none, none, none, none, none, none, none, none] ∧ acc = (cs.map cS).map M.fz ∧ cs.length = i ∧ Bx (k + i) (.ow l')) (rgD 0 n) 0 [] [some (.ow l), T, N, C, Mn, none, none, none, none, none, none, none, none] ⟨[], l, rfl, rfl, rfl, by simpa using h⟩ (by rw [rgD_len]; simp; omega) (fun i ρ acc d hd ⟨cs, l', e1, e2, hz, hx⟩ => by
      obtain ⟨hi, rfl⟩ := rgD_get hd
      subst e1 e2
      rw [Nat.zero_add] at hz hx ⊢
      obtain ⟨c, l2, q1, c0, c1, x1⟩ := take_ok (n := 2) hx (by omega) (by omega) (by omega)
      refine ⟨[some (.ow l'), T, N, C, Mn, none, some (.fz (.int (0 + (i : Nat)))), none, none, none, none, none, none], .fz (cS (decide (c = 0))), [some (.ow l2), T, N, C, Mn, none, some (.fz (.int (0 + (i : Nat)))), none, none, none, none, none, none], ?_, ?_, cs ++ [decide (c = 0)], l2, ?_, by simp, by simp [hz], by
        have : k + ((i : Nat) : Int) + 1 = k + ((i + 1 : Nat) : Int) := by omega
        rw [← this]; exact x1⟩
      · exists g__law_colors_right_1
      · have : c = 0 ∨ c = 1 := by omega
        rcases this with rfl | rfl
        · exists v__law_colors_right_2, q1, cS; rfl
        · exists v__law_colors_right_2, q1, cS; rfl
      · exists gB_t)
  rw [rgD_len, Nat.zero_add] at hz hx
  exact ⟨cs, l', e, hz, hx⟩
theorem s2_ok {k : Int} {l : List M} (t : Bt) (ht : t.sz ≤ 12) (N : Option M) (h : Bx k (.ow l)) (hk : k + 12 ≤ 1000000) :
    ∃ (ds : List D) (l' : List M), s__law_colors_right_2 [some (.ow l), some (.fz (eb t)), N, some (.fz (ocD (clg t))), some (.fz (.int (t.sz : Nat))), none, none, none, none, none, none, none, none] = some (.nx [some (.ow l'), some (.fz (eb t)), N, some (.fz (ocD (clg t))), some (.fz (.int (t.sz : Nat))), some (.ow (ds.map .fz)), none, none, none, none, none, none, none]) ∧ (∀ d ∈ ds, P t d) ∧ ds.length = 5 ∧ Bx (k + 12) (.ow l') := by
  obtain ⟨cs, l', e, hz, hx⟩ := rand_ok (some (.fz (eb t))) N (some (.fz (ocD (clg t)))) (some (.fz (.int (t.sz : Nat)))) t.sz h (by omega) (by omega)
  have m1 := mul_l t.sz (by omega)
  obtain ⟨o, m2, m3⟩ := mul_t t.sz (by omega)
  have hr := inRn (n := t.sz) (by omega)
  have hz2 : ((t.sz : Nat) : Int).toNat = t.sz := by omega
  have hB := P_cs t ht (List.replicate t.sz true) (by simp; omega)
  have hB2 := P_cs t ht (List.replicate (t.sz + 1) true) (by simp; omega)
  have hC := P_cs t ht cs (by omega)
  obtain ⟨L, hL⟩ : ∃ L, (match clg t with | none => D.lst [] | some cs => D.lst (cs.map cS)) = .lst L := by cases clg t <;> exact ⟨_, rfl⟩
  refine ⟨[.tup ((List.replicate t.sz true).map cS), .tup (cs.map cS), .non, .lst L, .tup ((List.replicate (t.sz + 1) true).map cS)], l', ?_, ?_, rfl, hx.mono (by omega) (by omega)⟩
  · generalize (List.replicate t.sz true).map cS = A at *
    generalize (List.replicate (t.sz + 1) true).map cS = Z at *
    generalize cs.map cS = Q at *
    cases hc : clg t with
    | none =>
      rw [hc] at hL e
      cases hL
      simp only [ocD_0] at e ⊢
      exists s__law_colors_right_2, m1, ad1, m2, m3, hr, hz2, e
    | some q =>
      rw [hc] at hL e
      simp only at hL
      cases hL
      simp only [ocD_1] at e ⊢
      generalize q.map cS = W at *
      exists s__law_colors_right_2, m1, ad1, m2, m3, hr, hz2, e
  · intro d hd
    simp only [List.mem_cons, List.not_mem_nil, or_false] at hd
    rcases hd with rfl | rfl | rfl | rfl | rfl
    · exact hB
    · exact hC
    · exact P_no t ht _ (.inl rfl)
    · exact P_no t ht _ (.inr ⟨_, rfl⟩)
    · exact hB2
/-! one thing turned -/
theorem nin2 (a x y : Int) : sIn true (.fz (.int a)) (.fz (.tup [.int x, .int y])) = some (.ex (.bl (!decide (a ∈ [x, y])))) := sIn_t true a [x, y]
theorem flip_ok (cs : List Bool) (hc : cs.length ≤ 100) (x y : Int) (B T N Mn s5 s7 sb sc : Option M) :
    fCompL g__law_colors_right_3 fYes v__law_colors_right_4 [10, 9] (enD 0 (cs.map cS)) [] [B, T, N, some (.fz (.tup (cs.map cS))), Mn, s5, some (.fz (.int x)), s7, some (.fz (.int y)), none, none, sb, sc] =
      some (((cs.zipIdx 0).map fun z => M.fz (cS (if ((z.2 : Nat) : Int) ∈ [x, y] then !z.1 else z.1))), [B, T, N, some (.fz (.tup (cs.map cS))), Mn, s5, some (.fz (.int x)), s7, some (.fz (.int y)), none, none, sb, sc]) := by
  rw [enD_map]
  generalize some (M.fz (D.tup (cs.map cS))) = C
  refine comp_al (fun z : Bool × Nat => .tup [.int (z.2 : Nat), cS z.1]) _ _ (by simp; omega) fun z hz => ?_
  refine ⟨[B, T, N, C, Mn, s5, some (.fz (.int x)), s7, some (.fz (.int y)), some (.fz (cS z.1)), some (.fz (.int (z.2 : Nat))), sb, sc], [B, T, N, C, Mn, s5, some (.fz (.int x)), s7, some (.fz (.int y)), some (.fz (cS z.1)), some (.fz (.int (z.2 : Nat))), sb, sc], ?_, ?_, ?_⟩
  · exists g__law_colors_right_3
  · have hn := nin2 (z.2 : Nat) x y
    have he := sEq_cr false z.1
    by_cases c : ((z.2 : Nat) : Int) ∈ [x, y]
    · rw [if_pos c]
      rw [decide_eq_true c] at hn
      have hn : sIn true (.fz (.int (z.2 : Nat))) (.fz (.tup [.int x, .int y])) = some (.ex (.bl false)) := hn
      cases hz1 : z.1 with
      | true =>
        rw [hz1] at he
        have he : sEq false (.fz (cS true)) (.fz (.str "red")) = some (.ex (.bl false)) := he
        generalize cS true = q at *
        exists v__law_colors_right_4, hn, he, Bool.false_eq_true, if_false, Bool.not_true, cS_0
      | false =>
        rw [hz1] at he
        have he : sEq false (.fz (cS false)) (.fz (.str "red")) = some (.ex (.bl true)) := he
        generalize cS false = q at *
        exists v__law_colors_right_4, hn, he, if_true, Bool.not_false, cS_1
    · rw [if_neg c]
      rw [decide_eq_false c] at hn
      have hn : sIn true (.fz (.int (z.2 : Nat))) (.fz (.tup [.int x, .int y])) = some (.ex (.bl true)) := hn
      generalize cS z.1 = q at *
      exists v__law_colors_right_4, hn
  · exists gB_t
theorem turns_loop (t : Bt) (ht : t.sz ≤ 12) (cs : List Bool) (hcs : cs.length ≤ 12) (N : Option M) : ∀ (fs : List D) (k : Int) (l : List M) (ds : List D) (s6 s7 s8 : Option M), Bx k (.ow l) → k + 2 * fs.length ≤ 1000000 → (∀ d ∈ ds, P t d) → ds.length + fs.length ≤ 100 →
    ∃ (ds' : List D) (l' : List M) (a b c : Option M), fLoop g__law_colors_right_5 l__law_colors_right_6 fs [some (.ow l), some (.fz (eb t)), N, some (.fz (.tup (cs.map cS))), some (.fz (.int (t.sz : Nat))), some (.ow (ds.map .fz)), s6, s7, s8, none, none, none, none] =
      some (.nx [some (.ow l'), some (.fz (eb t)), N, some (.fz (.tup (cs.map cS))), some (.fz (.int (t.sz : Nat))), some (.ow (ds'.map .fz)), a, b, c, none, none, none, none]) ∧ (∀ d ∈ ds', P t d) ∧ ds'.length = ds.length + fs.length ∧ Bx (k + 2 * fs.length) (.ow l')
  | [], k, l, ds, s6, s7, s8, h, _, hp, _ => ⟨ds, l, s6, s7, s8, rfl, hp, by simp, by simpa using h⟩
  | f :: fs, k, l, ds, s6, s7, s8, h, hk, hp, hz => by
    simp only [List.length_cons] at hk hz
    have hmx : (if ((t.sz : Nat) : Int) > 1 then ((t.sz : Nat) : Int) else 1) = ((max 1 t.sz : Nat) : Int) := mxn 1 t.sz
    have b1 : 1 ≤ max 1 t.sz := Nat.le_max_left _ _
    have b2 : max 1 t.sz ≤ 12 := Nat.max_le.mpr ⟨by omega, ht⟩
    generalize max 1 t.sz = mx at *
    obtain ⟨x, l1, e1, _, _, x1⟩ := take_ok (n := ((mx : Nat) : Int)) h (by omega) (by omega) (by omega)
    obtain ⟨y, l2, e2, _, _, x2⟩ := take_ok (n := ((mx : Nat) : Int)) x1 (by omega) (by omega) (by omega)
    have hf := flip_ok cs (by omega) x y (some (.ow l2)) (some (.fz (eb t))) N (some (.fz (.int (t.sz : Nat)))) (some (.ow (ds.map .fz))) (some (.fz f)) none none
    have hmm : ((cs.zipIdx 0).map fun z => cS (if ((z.2 : Nat) : Int) ∈ [x, y] then !z.1 else z.1)) = ((cs.zipIdx 0).map fun z => if ((z.2 : Nat) : Int) ∈ [x, y] then !z.1 else z.1).map cS := by rw [List.map_map]; rfl
    rw [mapmB _ fun z : Bool × Nat => cS (if ((z.2 : Nat) : Int) ∈ [x, y] then !z.1 else z.1), hmm] at hf
    have hP := P_cs t ht ((cs.zipIdx 0).map fun z => if ((z.2 : Nat) : Int) ∈ [x, y] then !z.1 else z.1) (by simp; omega)
    generalize (((cs.zipIdx 0).map fun z => if ((z.2 : Nat) : Int) ∈ [x, y] then !z.1 else z.1).map cS) = Q at *
    have x2' : Bx (k + 2) (.ow l2) := x2.mono (by omega) (by omega)
    obtain ⟨ds', l', a, b, c, e, hp', hz', hx'⟩ := turns_loop t ht cs hcs N fs (k + 2) l2 (ds ++ [D.tup Q]) (some (.fz (.int x))) (some (.fz f)) (some (.fz (.int y))) x2' (by omega) (fun d hd => by
      rcases List.mem_append.mp hd with hd | hd
      · exact hp d hd
      · rw [List.mem_singleton.mp hd]; exact hP) (by simp; omega)
    refine ⟨ds', l', a, b, c, ?_, hp', by rw [hz']; simp; omega, by rw [List.length_cons]; exact hx'.mono (by omega) (by omega)⟩
    have hl : ds.length ≤ 100000 := by omega
    rw [loop_go (ρ1 := [some (.ow l), some (.fz (eb t)), N, some (.fz (.tup (cs.map cS))), some (.fz (.int (t.sz : Nat))), some (.ow (ds.map .fz)), s6, some (.fz f), s8, none, none, none, none]) (ρ2 := [some (.ow l2), some (.fz (eb t)), N, some (.fz (.tup (cs.map cS))), some (.fz (.int (t.sz : Nat))), some (.ow ((ds ++ [D.tup Q]).map .fz)), some (.fz (.int x)), some (.fz f), some (.fz (.int y)), none, none, none, none]) ?_ ?_, e]
    · exists g__law_colors_right_5
    · generalize cs.map cS = W at *
      generalize eb t = T at *
      exists l__law_colors_right_6, hmx, e1, e2, hf, hl, List.map_append
theorem cut_1 (n : Nat) : HT.sIx n n (some (-1)) = n - 1 := by
  show (if (-1 : Int) < 0 then ((-1 : Int) + (n : Int)).toNat else min (-1 : Int).toNat n) = n - 1
  rw [if_pos (by decide)]; omega
theorem sl_last (l : List D) : ∃ o, sSl (.fz (.tup l)) none (some (-1)) = some o ∧ o.m = .fz (.tup (l.take (l.length - 1))) := by
  show ∃ o, (if HT.sIx l.length 0 none = 0 ∧ HT.sIx l.length l.length (some (-1)) = l.length then some (O.ex (.tup l)) else some (O.nt (Dv.cutD l none (some (-1))))) = some o ∧ _
  rw [cut_1, HT.sIx_none]
  split
  · rename_i h
    exact ⟨_, rfl, by rw [h.2, List.take_length]; rfl⟩
  · refine ⟨_, rfl, ?_⟩
    unfold Dv.cutD
    rw [cut_1, HT.sIx_none]; simp [O.m]
theorem reds_ok (cs : List Bool) (hc : cs.length ≤ 100) (ρ : List (Option M)) (B T N Mn s5 s6 s7 s8 sa sb sc : Option M) :
    fCompL g__law_colors_right_7 fYes v__law_colors_right_8 [9] (cs.map cS) [] [B, T, N, some (.fz (.tup (cs.map cS))), Mn, s5, s6, s7, s8, none, sa, sb, sc] =
      some (((cs.map fun c => eE (.b (!c))).map M.fz), [B, T, N, some (.fz (.tup (cs.map cS))), Mn, s5, s6, s7, s8, none, sa, sb, sc]) := by
  rw [← mapmB cs fun c => eE (.b (!c))]
  generalize some (M.fz (D.tup (cs.map cS))) = C
  refine comp_al cS _ _ (by omega) fun c _ => ⟨[B, T, N, C, Mn, s5, s6, s7, s8, some (.fz (cS c)), sa, sb, sc], [B, T, N, C, Mn, s5, s6, s7, s8, some (.fz (cS c)), sa, sb, sc], ?_, ?_, ?_⟩
  · exists g__law_colors_right_7
  · have he := sEq_cr false c
    have he : sEq false (.fz (cS c)) (.fz (.str "red")) = some (.ex (.bl (!c))) := by cases c <;> exact he
    generalize cS c = q at *
    exists v__law_colors_right_8, he, eE
  · exists gB_t
theorem s3_ok {k : Int} {l : List M} (t : Bt) (ht : t.sz ≤ 12) (N : Option M) (ds : List D) (hp : ∀ d ∈ ds, P t d) (hz : ds.length = 5) (h : Bx k (.ow l)) (hk : k + 6 ≤ 1000000) :
    ∃ (ds' : List D) (l' : List M) (a b c : Option M), s__law_colors_right_3 [some (.ow l), some (.fz (eb t)), N, some (.fz (ocD (clg t))), some (.fz (.int (t.sz : Nat))), some (.ow (ds.map .fz)), none, none, none, none, none, none, none] = some (.nx [some (.ow l'), some (.fz (eb t)), N, some (.fz (ocD (clg t))), some (.fz (.int (t.sz : Nat))), some (.ow (ds'.map .fz)), a, b, c, none, none, none, none]) ∧ (∀ d ∈ ds', P t d) ∧ ds'.length ≤ 100 ∧ Bx (k + 6) (.ow l') := by
  cases hc : clg t with
  | none =>
    refine ⟨ds, l, none, none, none, ?_, hp, by omega, h.mono (by omega) (by omega)⟩
    exists s__law_colors_right_3, ocD_0
  | some cs =>
    obtain ⟨q1, q2⟩ := clg_shown hc
    have hC := P_cs t ht cs (by omega)
    obtain ⟨ds', l', a, b, c, e, hp', hz', hx'⟩ := turns_loop t ht cs (by omega) N (rgD 0 3) k l (ds ++ [.tup (cs.map cS)]) none none none h (by rw [rgD_len]; omega) (fun d hd => by
      rcases List.mem_append.mp hd with hd | hd
      · exact hp d hd
      · rw [List.mem_singleton.mp hd]; exact hC) (by rw [rgD_len]; simp; omega)
    rw [rgD_len] at hz' hx'
    have h3 : Dv.inR 3 = true := rfl
    have z3 : (3 : Int).toNat = 3 := rfl
    obtain ⟨o1, a1, b1⟩ := sl_last (cs.map cS)
    obtain ⟨o2, a2, b2⟩ := sAdd_tup ((cs.map cS).take ((cs.map cS).length - 1)) [.str "green"] (by simp; omega)
    have hr := reds_ok cs (by omega) [] (some (.ow l')) (some (.fz (eb t))) N (some (.fz (.int (t.sz : Nat)))) (some (.ow (ds'.map .fz))) a b c none none none
    have hG : (cs.map cS).take ((cs.map cS).length - 1) ++ [.str "green"] = ((cs.take (cs.length - 1)).map El.c ++ [El.g]).map eE := by
      rw [List.map_append, List.map_map, List.length_map, ← List.map_take]; rfl
    have hR : (cs.map fun c => eE (.b (!c))) = (cs.map fun c => El.b (!c)).map eE := by rw [List.map_map]; rfl
    have hPG := P_tup t ht ((cs.take (cs.length - 1)).map El.c ++ [El.g]) (by simp; omega)
    have hPR := P_tup t ht (cs.map fun c => El.b (!c)) (by simp; omega)
    rw [← hG] at hPG
    rw [← hR] at hPR
    have hl1 : ds.length ≤ 100000 := by omega
    have hl2 : ds'.length + 2 ≤ 100000 := by rw [hz']; simp; omega
    simp only [List.length_append, List.length_cons, List.length_nil] at hz'
    refine ⟨ds' ++ [.tup ((cs.map cS).take ((cs.map cS).length - 1) ++ [.str "green"]), .tup (cs.map fun c => eE (.b (!c)))], l', a, b, c, ?_, fun d hd => ?_, by simp; omega, hx'.mono (by omega) (by omega)⟩
    · simp only [ocD_1]
      have e' : (ds ++ [D.tup (cs.map cS)]).map M.fz = ds.map M.fz ++ [M.fz (.tup (cs.map cS))] := by simp
      rw [e'] at e
      generalize (cs.map cS).take ((cs.map cS).length - 1) ++ [.str "green"] = G1 at *
      generalize (cs.map cS).take ((cs.map cS).length - 1) = G0 at *
      generalize (cs.map fun c => eE (.b (!c))) = R1 at *
      generalize cs.map cS = W at *
      generalize eb t = T at *
      exists s__law_colors_right_3, hl1, h3, z3, e, a1, b1, a2, b2, hr, hl2, List.map_append
    · rcases List.mem_append.mp hd with hd | hd
      · exact hp' d hd
      · simp only [List.mem_cons, List.not_mem_nil, or_false] at hd
        rcases hd with rfl | rfl
        · exact hPG
        · exact hPR
theorem asked_loop (t : Bt) (B C Mn s5 s6 s7 s8 s9 sa : Option M) : ∀ (ds : List D) (nm : Bool) (sb sc : Option M), (∀ d ∈ ds, P t d) →
    ∃ (x y z : Option M), fLoop g__law_colors_right_9 l__law_colors_right_10 ds [B, some (.fz (eb t)), some (.fz (.bl nm)), C, Mn, s5, s6, s7, s8, s9, sa, sb, sc] = some (.nx [B, some (.fz (eb t)), x, C, Mn, s5, s6, s7, s8, s9, sa, y, z])
  | [], nm, sb, sc, _ => ⟨_, sb, sc, rfl⟩
  | d :: ds, nm, sb, sc, h => by
    obtain ⟨v, h1, h2⟩ := h d List.mem_cons_self
    obtain ⟨x, y, z, e⟩ := asked_loop t B C Mn s5 s6 s7 s8 s9 sa ds (!nm) (some (.fz d)) (some (.fz (.bl v))) fun d hd => h d (List.mem_cons_of_mem _ hd)
    refine ⟨x, y, z, ?_⟩
    have hs := same_ok 16 (.bl v) trivial
    rw [loop_go (ρ1 := [B, some (.fz (eb t)), some (.fz (.bl nm)), C, Mn, s5, s6, s7, s8, s9, sa, some (.fz d), sc]) (ρ2 := [B, some (.fz (eb t)), some (.fz (.bl (!nm))), C, Mn, s5, s6, s7, s8, s9, sa, some (.fz d), some (.fz (.bl v))]) ?_ ?_, e]
    · exists g__law_colors_right_9
    · generalize eb t = T at *
      cases nm <;> exists l__law_colors_right_10, h1, h2, hs
theorem colors_right {k : Int} {l : List M} (t : Bt) (ht : t.sz ≤ 12) (nm : Bool) (h : Bx k (.ow l)) (hk : k + 18 ≤ 1000000) :
    ∃ l', m__law_colors_right [.ow l, .fz (eb t), .fz (.bl nm)] = some (.fz (.bl true), [some (.ow l'), none, none]) ∧ Bx (k + 18) (.ow l') := by
  have e1 := s1_ok t ht (some (.ow l)) (some (.fz (.bl nm)))
  obtain ⟨ds, l1, e2, p2, z2, x2⟩ := s2_ok t ht (some (.fz (.bl nm))) h (by omega)
  obtain ⟨ds', l2, a, b, c, e3, p3, z3, x3⟩ := s3_ok t ht (some (.fz (.bl nm))) ds p2 z2 x2 (by omega)
  obtain ⟨x, y, z, e4⟩ := asked_loop t (some (.ow l2)) (some (.fz (ocD (clg t)))) (some (.fz (.int (t.sz : Nat)))) (some (.fz (.lst ds'))) a b c none none ds' nm none none p3
  refine ⟨l2, ?_, x3.mono (by omega) (by omega)⟩
  generalize ocD (clg t) = O at *
  generalize eb t = T at *
  exists y__law_colors_right, e2__law_colors_right, e1, e2, e3, s__law_colors_right_4, s__law_colors_right_5, frzs_fz, e4
end Lk29

set_option Elab.async false
set_option linter.all false
set_option maxRecDepth 100000
set_option maxHeartbeats 4000000
namespace Lk29
open PySem PySem.Spec PyProof.Rows L2 Dv
local macro_rules
  | `(tactic| exists $es:term,*) => `(tactic| simp (config := { implicitDefEqProofs := false }) only [$[$es:term],*, gB_t, fC_e, kV_0, kV_1, kV_2, fV_e, kFzA_0, kFz_0, kFz_1, fFz_e, kMvA_0, kMv_0, kMv_1, fMv_e, look_v, kJ_0, look_a, kO_0, kBin3b_0, kBin3_0, kBin2_0, kBin1_0, fBin_e, kTst_0, fTst_e, kCons2_0, kCons1_0, fCons_e, fNil_e, kLooks2_0, kLooks_0, looks_n, looks_c, kCall2_0, kCall1_0, fCall_e, kAf_0, allFz_n, allFz_c, kOwn_0, owns_n, owns_c, kTup2_0, kTup_0, fTup_e, kLst2_0, kLst_0, fLst_e, kAnd_0, kAnd_1, kOr_0, kOr_1, kNot_0, fAnd_e, fOr_e, fNot_e, kTru3_0, kTru2_0, kTru_0, fTru_e, kAndV_0, kAndV_1, kOrV_0, kOrV_1, kNotV_0, fAndV_e, fOrV_e, fNotV_e, kIfE_0, kIfE_1, fIf_e, kSeq_0, kSeq_1, kSeq_2, kSeq_3, fSeq_e, fPass_e, fRetN_e, fBreak_e, fCont_e, kExpr_0, fExpr_e, kRet_0, fRet_e, kIf_0, kIf_1, fIfS_e, kNx_0, kAsg_0, fAsg_e, gN_e, kPar_0, gPar_e, kPar3_0, gPar3_e, gTupl_e, gsNil_e, kGs_0, gsCons_e, gmNil_e, kGm_0, gmCons_e, kUnp2_0, kUnp_0, fUnp_e, kSet4_0, kSet3_0, kSet2_0, kSet1_0, gSet_e, kIsO_0, kMt6_0, kMt5_0, kMt4_0, kMt3_0, kMt2_0, kMt1_0, fMt_e, kCF3_0, kCF2_0, kCF1_0, fCallF_e, kLd_0, kLdA_0, lend_n, lend_v, lend_a, back_n, back_v, back_a, kPk2_0, kPk_0, pick_n, pick_c, kCK5_0, kCK4_0, kCK3_0, kCK2_0, kCK1_0, fCallK_e, kCh4_0, kCh3_0, kCh3_1, kCh2_0, kCh1_0, fCh_e, kSl4_0, kSl3_0, kSl2_0, kSl1_0, fSl_e, fONone_e, kOS_0, fOSome_e, kNeg_0, fNeg_e, kRl3_0, kRl2_0, kRl1_0, fRevL_e, kIsi2_0, kIsi1_0, fIsi_e, kIsj2_0, kIsj1_0, fIsi2_e, kR1_0, fR1_e, kR2b_0, kR2_0, fR2_e, kLRg_0, fLRg_e, kTRg_0, fTRg_e, kFor_0, fFor_e, kSI2_0, kSI1_0, fSeqI_e, kRg1_0, fRg1_e, kRg2_0, fRg2_e, kRg3_0, fRg3_e, kEn2_0, kEn1_0, fEnum_e, kEa1_0, fEnumA_e, kId2_0, kId1_0, fIdx_e, kCm2_0, kCm1_0, fComp_e, kCm1b_0, fComp2_e, wipe_n, wipe_c, fYes_e, kLs4_0, kLs3_0, kLs2_0, kLs1_0, fLenSet_e, kFn_0, kFn_1, cN_n, cN_c, oC_t, oC_f, oL_0, oL_1, outs_o, cK_n, cK_c, cond_true, cond_false, fnG_e, kW2_0, kW2_1, kW2_2, kW2_3, kW1_0, kW1_1, kL2_0, kL2_1, kL2_2, kL2_3, kL1_0, kC4_0, isi_NoneType_bool, isi_NoneType_int, isi_NoneType_str, isi_NoneType_tuple, isi_NoneType_list, isi_NoneType_dict, isi_bool_bool, isi_bool_int, isi_bool_str, isi_bool_tuple, isi_bool_list, isi_bool_dict, isi_int_bool, isi_int_int, isi_int_str, isi_int_tuple, isi_int_list, isi_int_dict, isi_str_bool, isi_str_int, isi_str_str, isi_str_tuple, isi_str_list, isi_str_dict, isi_tuple_bool, isi_tuple_int, isi_tuple_str, isi_tuple_tuple, isi_tuple_list, isi_tuple_dict, isi_list_bool, isi_list_int, isi_list_str, isi_list_tuple, isi_list_list, isi_list_dict, isi_dict_bool, isi_dict_int, isi_dict_str, isi_dict_tuple, isi_dict_list, isi_dict_dict, ex_m, nt_m, nl_m, frz_fz, frz_ow, s1_e, s2_e, sAdd_i, sSub_i, sMul_i, sDiv_i, sMod_i, sPow_i, sLt_i, sLe_i, sGt_i, sGe_i, nB_t, nB_f, sIs_n, sIs_b, isN_n, isN_t, isN_l, isN_r, isN_i, isN_b, isN_s, isN_o, sEq_i, sEq_b, sEq_o, sEq_l, sEq_t, sIn_te, sIn_le, kEx_0, sIx_t, sIx_l, sIx_r, kIx_0, sIx_o, unfz_n, unfz_c, unfz_m, at_0, at_1, at_2, at_3, gLen_t, gLen_l, gLen_r, gLen_o, gInt_i, gInt_b, gAbs_i, gMax2_i, gMin2_i, gList_t, gList_l, gTuple_l, gTuple_o, gTuple_t, isLs_o, isLs_l, isLs_r, tru_b, tru_i, sApp_e, sExt_t, sExt_l, ty_int, ty_bl, ty_non, ty_str, ty_tup, ty_lst, ty_rol, ty_ow, seqOf_l, seqOf_t, seqOf_r, frzs_fz, Dv.M.frz, Dv.M.frzs, List.getElem?_cons_zero, List.getElem?_cons_succ, List.set_cons_zero, List.set_cons_succ, List.map_cons, List.map_nil, List.replicate_succ, List.replicate_zero, List.cons_append, List.nil_append, List.append_nil, List.length_cons, List.length_nil, List.length_map, List.length_set, Nat.zero_add, Nat.add_zero, decide_true, decide_false, and_self, Bool.not_true, Bool.not_false, Bool.or_true, Bool.true_or, Bool.or_false, Bool.false_or, Bool.and_true, Bool.true_and, Bool.and_false, Bool.false_and, Nat.lt_add_left_iff_pos, Nat.zero_lt_succ, true_and, and_true, Nat.le_refl, Nat.lt_irrefl, List.isEmpty_nil, List.isEmpty_cons, Nat.reduceAdd, Nat.reduceSub, Nat.reduceLeDiff, Nat.reduceLT, Nat.reduceBEq, Nat.reduceEqDiff, Nat.reduceMul, Int.reduceNeg, Nat.le_add_left])
/-! ### great trees -/
def fl (n : Nat) : Nat → Nat → Bt
  | 0, _ => .nil
  | f + 1, k => if k < n then .nd (fl n f (2 * k + 1)) (fl n f (2 * k + 2)) else .nil
theorem full_ok (n : Nat) (h : n ≤ 12) : ∃ t, m__law_full [.fz (.int (n : Nat))] = some (.fz (eb t), [none]) ∧ t.sz = n := by
  have : n = 0 ∨ n = 1 ∨ n = 2 ∨ n = 3 ∨ n = 4 ∨ n = 5 ∨ n = 6 ∨ n = 7 ∨ n = 8 ∨ n = 9 ∨ n = 10 ∨ n = 11 ∨ n = 12 := by omega
  rcases this with rfl | rfl | rfl | rfl | rfl | rfl | rfl | rfl | rfl | rfl | rfl | rfl | rfl
  · exact ⟨fl 0 5 0, by kernel_rfl, by kernel_rfl⟩
  · exact ⟨fl 1 5 0, by kernel_rfl, by kernel_rfl⟩
  · exact ⟨fl 2 5 0, by kernel_rfl, by kernel_rfl⟩
  · exact ⟨fl 3 5 0, by kernel_rfl, by kernel_rfl⟩
  · exact ⟨fl 4 5 0, by kernel_rfl, by kernel_rfl⟩
  · exact ⟨fl 5 5 0, by kernel_rfl, by kernel_rfl⟩
  · exact ⟨fl 6 5 0, by kernel_rfl, by kernel_rfl⟩
  · exact ⟨fl 7 5 0, by kernel_rfl, by kernel_rfl⟩
  · exact ⟨fl 8 5 0, by kernel_rfl, by kernel_rfl⟩
  · exact ⟨fl 9 5 0, by kernel_rfl, by kernel_rfl⟩
  · exact ⟨fl 10 5 0, by kernel_rfl, by kernel_rfl⟩
  · exact ⟨fl 11 5 0, by kernel_rfl, by kernel_rfl⟩
  · exact ⟨fl 12 5 0, by kernel_rfl, by kernel_rfl⟩
theorem d10 : decide ((1 : Int) = 0) = false := rfl
theorem d20 : decide ((2 : Int) = 0) = false := rfl
theorem d21 : decide ((2 : Int) = 1) = false := rfl
theorem d30 : decide ((3 : Int) = 0) = false := rfl
theorem d31 : decide ((3 : Int) = 1) = false := rfl
theorem d32 : decide ((3 : Int) = 2) = false := rfl
theorem great_turn {k : Int} {l : List M} (m : Nat) (h8 : 8 ≤ m) (h12 : m ≤ 12) (L : List M) (hL : L.length ≤ 10) (s3 s4 s5 : Option M) (h : Bx k (.ow l)) (hk : k + 5002 ≤ 1000000) :
    ∃ (t : Bt) (l' : List M) (a b : Option M), l__law_great_2 [some (.ow l), some (.fz (.int (m : Nat))), some (.ow L), s3, s4, s5] = some (.nx [some (.ow l'), some (.fz (.int (m : Nat))), some (.ow (L ++ [.fz (eb t)])), s3, a, b]) ∧ t.sz = m ∧ Bx (k + 5002) (.ow l') := by
  obtain ⟨w, l1, e1, w0, w1, x1⟩ := take_ok (n := 4) h (by omega) (by omega) (by omega)
  have hL' : L.length ≤ 100000 := by omega
  have hlog : (2 : Int).natAbs.log2 < 9000 := by decide +kernel
  have z2 : (0 : Int) < 2 := by decide
  rcases four w0 w1 with rfl | rfl | rfl | rfl
  · obtain ⟨t, e2, z⟩ := full_ok m h12
    refine ⟨t, l1, some (.fz (.int 0)), s5, ?_, z, x1.mono (by omega) (by omega)⟩
    exists l__law_great_2, d10, d20, d21, d30, d31, d32, e1, e2, hL'
  · obtain ⟨d, l2, e2, d0, d1, x2⟩ := take_ok (n := 3) x1 (by omega) (by omega) (by omega)
    obtain ⟨c, rfl⟩ := Int.eq_ofNat_of_zero_le d0
    have q1 : ((m : Nat) : Int) / 2 - ((c : Nat) : Int) = ((m / 2 - c : Nat) : Int) := by omega
    have q2 : ((m : Nat) : Int) - 1 - ((m / 2 - c : Nat) : Int) = ((m - 1 - (m / 2 - c) : Nat) : Int) := by omega
    obtain ⟨t1, e3, y1⟩ := full_ok (m / 2 - c) (by omega)
    obtain ⟨t2, e4, y2⟩ := full_ok (m - 1 - (m / 2 - c)) (by omega)
    refine ⟨.nd t1 t2, l2, some (.fz (.int 1)), some (.fz (.int ((m / 2 - c : Nat) : Int))), ?_, by simp only [Bt.sz]; omega, x2.mono (by omega) (by omega)⟩
    exists l__law_great_2, d10, d20, d21, d30, d31, d32, e1, e2, hlog, z2, q1, q2, e3, e4, hL', eb_1
  · obtain ⟨d, l2, e2, d0, d1, x2⟩ := take_ok (n := ((m : Nat) : Int) - 2) x1 (by omega) (by omega) (by omega)
    obtain ⟨c, rfl⟩ := Int.eq_ofNat_of_zero_le d0
    have q2 : ((m : Nat) : Int) - 1 - ((1 + c : Nat) : Int) = ((m - 1 - (1 + c) : Nat) : Int) := by omega
    obtain ⟨t1, e3, y1⟩ := full_ok (1 + c) (by omega)
    obtain ⟨t2, l3, e4, y2, x3⟩ := binary_ok (m - 1 - (1 + c)) x2 (by omega) (by omega)
    refine ⟨.nd t1 t2, l3, some (.fz (.int 2)), some (.fz (.int ((1 + c : Nat) : Int))), ?_, by simp only [Bt.sz]; omega, x3.mono (by omega) (by omega)⟩
    exists l__law_great_2, d10, d20, d21, d30, d31, d32, e1, e2, on1, q2, e3, e4, hL', eb_1
  · obtain ⟨t2, l3, e4, y2, x3⟩ := binary_ok m x1 (by omega) (by omega)
    refine ⟨t2, l3, some (.fz (.int 3)), s5, ?_, y2, x3.mono (by omega) (by omega)⟩
    exists l__law_great_2, d10, d20, d21, d30, d31, d32, e1, e4, hL'
theorem great_ok {k : Int} {l : List M} (h : Bx k (.ow l)) (hk : k + 10005 ≤ 1000000) :
    ∃ (t1 t2 : Bt) (l' : List M), m__law_great [.ow l] = some (.fz (.lst [eb t1, eb t2]), [some (.ow l')]) ∧ t1.sz ≤ 12 ∧ t2.sz ≤ 12 ∧ Bx (k + 10005) (.ow l') := by
  obtain ⟨d, l1, e1, d0, d1, x1⟩ := take_ok (n := 5) h (by omega) (by omega) (by omega)
  obtain ⟨c, rfl⟩ := Int.eq_ofNat_of_zero_le d0
  have q : (8 : Int) + ((c : Nat) : Int) = ((8 + c : Nat) : Int) := by omega
  obtain ⟨t1, l2, a, b, e2, y1, x2⟩ := great_turn (8 + c) (by omega) (by omega) [] (by simp) (some (.fz (.int 0))) none none x1 (by omega)
  obtain ⟨t2, l3, a', b', e3, y2, x3⟩ := great_turn (8 + c) (by omega) (by omega) [.fz (eb t1)] (by simp) (some (.fz (.int 1))) a b x2 (by omega)
  have h2 : Dv.inR 2 = true := rfl
  have z2 : rgD 0 (2 : Int).toNat = [.int 0, .int 1] := rfl
  refine ⟨t1, t2, l3, ?_, by omega, by omega, x3.mono (by omega) (by omega)⟩
  have lp : fLoop g__law_great_1 l__law_great_2 [.int 0, .int 1] [some (.ow l1), some (.fz (.int ((8 + c : Nat) : Int))), some (.ow []), none, none, none] = some (.nx [some (.ow l3), some (.fz (.int ((8 + c : Nat) : Int))), some (.ow [.fz (eb t1), .fz (eb t2)]), some (.fz (.int 1)), a', b']) := by
    rw [loop_go (by exists g__law_great_1) e2, loop_go (by exists g__law_great_1) e3]
    rfl
  exists y__law_great, e__law_great, e1, q, h2, z2, lp
/-! ### the law -/
theorem nmb_rev (t : Bt) : nmb t.rev = nmb t := by
  unfold nmb
  rw [Bt.rev_ht, Bt.rev_lo]
  cases h1 : t.rev.flt with
  | none =>
    have := (Bt.flt_none t).mpr ((Bt.okc_rev t).mp ((Bt.flt_none _).mp h1))
    rw [this]
  | some i =>
    cases h2 : t.flt with
    | none =>
      have := (Bt.flt_none _).mpr ((Bt.okc_rev t).mpr ((Bt.flt_none _).mp h2))
      rw [h1] at this; cases this
    | some j => rfl
theorem every_loop (S K B E G Mn : Option M) : ∀ (ts : List Bt) (nm : Bool) (s4 s8 : Option M), (∀ t ∈ ts, t.sz ≤ 12) →
    ∃ (a : Option M) (x : Bool), fLoop g_law_1 l_law_2 (ts.map eb) [S, K, B, E, s4, G, some (.fz (.bl nm)), Mn, s8] = some (.nx [S, K, B, E, a, G, some (.fz (.bl x)), Mn, s8])
  | [], nm, s4, s8, _ => ⟨s4, nm, rfl⟩
  | t :: ts, nm, s4, s8, h => by
    obtain ⟨a, x, e⟩ := every_loop S K B E G Mn ts (!nm) (some (.fz (eb t))) s8 fun t ht => h t (List.mem_cons_of_mem _ ht)
    have ht := tree_right t (h t List.mem_cons_self) nm
    refine ⟨a, x, ?_⟩
    rw [List.map_cons, loop_go (ρ1 := [S, K, B, E, some (.fz (eb t)), G, some (.fz (.bl nm)), Mn, s8]) (ρ2 := [S, K, B, E, some (.fz (eb t)), G, some (.fz (.bl (!nm))), Mn, s8]) ?_ ?_, e]
    · exists g_law_1
    · generalize eb t = T at *
      exists l_law_2, ht
theorem great_step {k : Int} {l : List M} (t : Bt) (ht : t.sz ≤ 12) (nm : Bool) (S K E s4 G Mn s8 : Option M) (h : Bx k (.ow l)) (hk : k + 18 ≤ 1000000) :
    ∃ l', l_law_4 [S, K, some (.ow l), E, some (.fz (eb t)), G, some (.fz (.bl nm)), Mn, s8] = some (.nx [S, K, some (.ow l'), E, some (.fz (eb t)), G, some (.fz (.bl (!nm))), Mn, some (.fz (eb t.rev))]) ∧ Bx (k + 18) (.ow l') := by
  have h1 := tree_right t ht nm
  obtain ⟨l', h2, x⟩ := colors_right t ht (!nm) h hk
  have h3 := mirror_ok t ht
  have hz := t.rev_sz
  have h4 := blackh_ok t.rev (by omega)
  have h5 := blackh_ok t ht
  rw [nmb_rev] at h4
  have h6 := same_ok 16 (.tup (nmb t)) (okNm t ht _)
  refine ⟨l', ?_, x⟩
  generalize nmb t = R at *
  generalize eb t.rev = T' at *
  generalize eb t = T at *
  exists l_law_4, h1, h2, h3, h4, h5, h6
theorem three {d : Int} (h0 : 0 ≤ d) (h1 : d < 3) : d = 0 ∨ d = 1 ∨ d = 2 := by omega
theorem law_turn (ns : List Int) (j : Nat) (a2 a3 a4 a5 a6 a7 a8 : Option M) :
    ∃ d2 d3 d4 d5 d6 d7 d8, l_law_6 [some (.fz (.rol (ns.map .int))), some (.fz (.int (j : Nat))), a2, a3, a4, a5, a6, a7, a8] = some (.nx [some (.fz (.rol (ns.map .int))), some (.fz (.int (j : Nat))), d2, d3, d4, d5, d6, d7, d8]) := by
  obtain ⟨v, f1⟩ := cell_ok ns j
  obtain ⟨b0, f2, x0⟩ := box_ok v
  have e1 : q_l_law_6_1 [some (.fz (.rol (ns.map .int))), some (.fz (.int (j : Nat))), a2, a3, a4, a5, a6, a7, a8] = some (.nx [some (.fz (.rol (ns.map .int))), some (.fz (.int (j : Nat))), some (.ow b0), a3, a4, a5, a6, a7, a8]) := by
    exists q_l_law_6_1, f1, f2
  generalize some (M.fz (D.rol (ns.map .int))) = S at *
  obtain ⟨d, b1, f3, _, _, x1⟩ := take_ok (n := 2) x0 (by omega) (by omega) (by omega)
  obtain ⟨many, b2, h7, e2, x2⟩ : ∃ (many : Nat) (b2 : List M), many ≤ 7 ∧ q_l_law_6_2 [S, some (.fz (.int (j : Nat))), some (.ow b0), a3, a4, a5, a6, a7, a8] = some (.nx [S, some (.fz (.int (j : Nat))), some (.ow b2), a3, a4, a5, some (.fz (.bl (decide (d = 0)))), some (.fz (.int (many : Nat))), a8]) ∧ Bx 4 (.ow b2) := by
    by_cases c : ((j : Nat) : Int) = 0
    · obtain ⟨p, c1, g1, p0, p1, y1⟩ := take_ok (n := 7) x1 (by omega) (by omega) (by omega)
      obtain ⟨q, c2, g2, q0, q1, y2⟩ := take_ok (n := 6) y1 (by omega) (by omega) (by omega)
      obtain ⟨r, c3, g3, r0, r1, y3⟩ := take_ok (n := 3) y2 (by omega) (by omega) (by omega)
      have key : ∀ o : Int, atI [D.int 7, .int p, .int q] r = some (.int o) → 0 ≤ o → o ≤ 7 → ∃ (many : Nat) (b2 : List M), many ≤ 7 ∧ q_l_law_6_2 [S, some (.fz (.int (j : Nat))), some (.ow b0), a3, a4, a5, a6, a7, a8] = some (.nx [S, some (.fz (.int (j : Nat))), some (.ow b2), a3, a4, a5, some (.fz (.bl (decide (d = 0)))), some (.fz (.int (many : Nat))), a8]) ∧ Bx 4 (.ow b2) := by
        intro o ho o0 o7
        obtain ⟨i, rfl⟩ := Int.eq_ofNat_of_zero_le o0
        refine ⟨i, c3, by omega, ?_, y3⟩
        exists q_l_law_6_2, f3, c, g1, g2, g3, ho
      rcases three r0 r1 with rfl | rfl | rfl
      · exact key _ (at_0 _ _) (by omega) (by omega)
      · exact key _ (at_1 _ _ _) (by omega) (by omega)
      · exact key _ (at_2 _ _ _ _) (by omega) (by omega)
    · obtain ⟨p, c1, g1, p0, p1, y1⟩ := take_ok (n := 6) x1 (by omega) (by omega) (by omega)
      obtain ⟨i, rfl⟩ := Int.eq_ofNat_of_zero_le p0
      refine ⟨i, c1, by omega, ?_, y1.mono (by omega) (by omega)⟩
      exists q_l_law_6_2, f3, c, g1
  generalize decide (d = 0) = nm at *
  obtain ⟨ts, f4, hts⟩ := binaries_ok many h7
  have e3 : q_l_law_6_3 [S, some (.fz (.int (j : Nat))), some (.ow b2), a3, a4, a5, some (.fz (.bl nm)), some (.fz (.int (many : Nat))), a8] = some (.nx [S, some (.fz (.int (j : Nat))), some (.ow b2), some (.fz (.lst (ts.map eb))), a4, a5, some (.fz (.bl nm)), some (.fz (.int (many : Nat))), a8]) := by
    cases nm <;> exists q_l_law_6_3, f4
  obtain ⟨a4', nm2, L1⟩ := every_loop S (some (.fz (.int (j : Nat)))) (some (.ow b2)) (some (.fz (.lst (ts.map eb)))) a5 (some (.fz (.int (many : Nat)))) ts nm a4 a8 fun t ht => by have := hts.2 t ht; omega
  have e4 : q_l_law_6_4 [S, some (.fz (.int (j : Nat))), some (.ow b2), some (.fz (.lst (ts.map eb))), a4, a5, some (.fz (.bl nm)), some (.fz (.int (many : Nat))), a8] = some (.nx [S, some (.fz (.int (j : Nat))), some (.ow b2), some (.fz (.lst (ts.map eb))), a4', a5, some (.fz (.bl nm2)), some (.fz (.int (many : Nat))), a8]) := by
    exists q_l_law_6_4, L1
  obtain ⟨t1, t2, b3, f5, z1, z2, x3⟩ := great_ok x2 (by omega)
  have e5 : q_l_law_6_5 [S, some (.fz (.int (j : Nat))), some (.ow b2), some (.fz (.lst (ts.map eb))), a4', a5, some (.fz (.bl nm2)), some (.fz (.int (many : Nat))), a8] = some (.nx [S, some (.fz (.int (j : Nat))), some (.ow b3), some (.fz (.lst (ts.map eb))), a4', some (.fz (.lst [eb t1, eb t2])), some (.fz (.bl nm2)), some (.fz (.int (many : Nat))), a8]) := by
    exists q_l_law_6_5, f5
  have hlen : gLen (.fz (.lst (ts.map eb))) = some (.ex (.int (ts.length : Nat))) := by show some _ = some _; simp
  have hp := cat_pos many
  have hle := cat_le many
  have hl1 := hts.1
  obtain ⟨i, b4, f6, i0, i1, x4⟩ := take_ok (n := ((ts.length : Nat) : Int)) x3 (by omega) (by omega) (by omega)
  obtain ⟨i, rfl⟩ := Int.eq_ofNat_of_zero_le i0
  have hi : i < ts.length := by omega
  have hat : atI (ts.map eb) ((i : Nat) : Int) = some (eb ts[i]) := by
    rw [atI_get' (by simpa using hi)]; simp
  have z3 : ts[i].sz ≤ 12 := by have := hts.2 ts[i] (List.getElem_mem hi); omega
  obtain ⟨b5, w1, x5⟩ := great_step t1 z1 nm2 S (some (.fz (.int (j : Nat)))) (some (.fz (.lst (ts.map eb)))) none (some (.fz (.lst [eb t1, eb t2]))) (some (.fz (.int (many : Nat)))) a8 x4 (by omega)
  obtain ⟨b6, w2, x6⟩ := great_step t2 z2 (!nm2) S (some (.fz (.int (j : Nat)))) (some (.fz (.lst (ts.map eb)))) none (some (.fz (.lst [eb t1, eb t2]))) (some (.fz (.int (many : Nat)))) (some (.fz (eb t1.rev))) x5 (by omega)
  obtain ⟨b7, w3, x7⟩ := great_step t1 z1 (!!nm2) S (some (.fz (.int (j : Nat)))) (some (.fz (.lst (ts.map eb)))) none (some (.fz (.lst [eb t1, eb t2]))) (some (.fz (.int (many : Nat)))) (some (.fz (eb t2.rev))) x6 (by omega)
  obtain ⟨b8, w4, x8⟩ := great_step ts[i] z3 (!!!nm2) S (some (.fz (.int (j : Nat)))) (some (.fz (.lst (ts.map eb)))) none (some (.fz (.lst [eb t1, eb t2]))) (some (.fz (.int (many : Nat)))) (some (.fz (eb t1.rev))) x7 (by omega)
  generalize hn1 : (!nm2) = n1 at *
  generalize hn2 : (!n1) = n2 at *
  generalize hn3 : (!n2) = n3 at *
  generalize hn4 : (!n3) = n4 at *
  generalize eb ts[i] = T3 at *
  generalize ts.map eb = W at *
  have L2 : fLoop g_law_3 l_law_4 [eb t1, eb t2, eb t1, T3] [S, some (.fz (.int (j : Nat))), some (.ow b4), some (.fz (.lst W)), a4', some (.fz (.lst [eb t1, eb t2])), some (.fz (.bl nm2)), some (.fz (.int (many : Nat))), a8] = some (.nx [S, some (.fz (.int (j : Nat))), some (.ow b8), some (.fz (.lst W)), some (.fz T3), some (.fz (.lst [eb t1, eb t2])), some (.fz (.bl n4)), some (.fz (.int (many : Nat))), some (.fz (eb ts[i].rev))]) := by
    rw [loop_go (by exists g_law_3) w1, loop_go (by exists g_law_3) w2, loop_go (by exists g_law_3) w3, loop_go (by exists g_law_3) w4, fLoop_n]
  generalize eb ts[i].rev = T4 at *
  generalize eb t1 = T1 at *
  generalize eb t2 = T2 at *
  have h0 : atI [T1, T2] 0 = some T1 := at_0 _ _
  have h1 : atI [T1, T2] 1 = some T2 := at_1 _ _ _
  have e6 : q_l_law_6_6 [S, some (.fz (.int (j : Nat))), some (.ow b3), some (.fz (.lst W)), a4', some (.fz (.lst [T1, T2])), some (.fz (.bl nm2)), some (.fz (.int (many : Nat))), a8] = some (.nx [S, some (.fz (.int (j : Nat))), some (.ow b8), some (.fz (.lst W)), some (.fz T3), some (.fz (.lst [T1, T2])), some (.fz (.bl n4)), some (.fz (.int (many : Nat))), some (.fz T4)]) := by
    exists q_l_law_6_6, h0, h1, hlen, f6, hat, L2
  refine ⟨some (.ow b8), some (.fz (.lst W)), some (.fz T3), some (.fz (.lst [T1, T2])), some (.fz (.bl n4)), some (.fz (.int (many : Nat))), some (.fz T4), ?_⟩
  rw [e_l_law_6, fSeq_e, e1, kSeq_0, fSeq_e, e2, kSeq_0, fSeq_e, e3, kSeq_0, fSeq_e, e4, kSeq_0, fSeq_e, e5, kSeq_0, e6]
theorem law_loop (ns : List Int) : ∀ (ks : List Nat) (a1 a2 a3 a4 a5 a6 a7 a8 : Option M),
    ∃ d1 d2 d3 d4 d5 d6 d7 d8, fLoop g_law_5 l_law_6 (ks.map fun i => D.int (i : Nat)) [some (.fz (.rol (ns.map .int))), a1, a2, a3, a4, a5, a6, a7, a8] = some (.nx [some (.fz (.rol (ns.map .int))), d1, d2, d3, d4, d5, d6, d7, d8])
  | [], a1, a2, a3, a4, a5, a6, a7, a8 => ⟨a1, a2, a3, a4, a5, a6, a7, a8, rfl⟩
  | k :: ks, a1, a2, a3, a4, a5, a6, a7, a8 => by
    obtain ⟨d2, d3, d4, d5, d6, d7, d8, e⟩ := law_turn ns k a2 a3 a4 a5 a6 a7 a8
    obtain ⟨g1, g2, g3, g4, g5, g6, g7, g8, e'⟩ := law_loop ns ks (some (.fz (.int (k : Nat)))) d2 d3 d4 d5 d6 d7 d8
    refine ⟨g1, g2, g3, g4, g5, g6, g7, g8, ?_⟩
    rw [List.map_cons, loop_go (by exists g_law_5) e, e']
theorem law_true : ∀ ns : List Int, ns.length ≤ 63 → ∃ outs, m_law [.fz (.rol (ns.map .int))] = some (.fz (.bl true), outs) := by
  intro ns hn
  have hm : ∃ j : Nat, j ≤ 100 ∧ (if (if ((ns.length : Nat) : Int) < 3 then ((ns.length : Nat) : Int) else 3) > 2 then (if ((ns.length : Nat) : Int) < 3 then ((ns.length : Nat) : Int) else 3) else 2) = ((j : Nat) : Int) := by
    by_cases c1 : ((ns.length : Nat) : Int) < 3
    · rw [if_pos c1]
      by_cases c2 : ((ns.length : Nat) : Int) > 2
      · rw [if_pos c2]; exact ⟨ns.length, by omega, rfl⟩
      · rw [if_neg c2]; exact ⟨2, by omega, rfl⟩
    · rw [if_neg c1, if_pos (by omega)]; exact ⟨3, by omega, rfl⟩
  obtain ⟨j, hj, hm⟩ := hm
  obtain ⟨d1, d2, d3, d4, d5, d6, d7, d8, e⟩ := law_loop ns (List.range j) none none none none none none none none
  rw [← rgD0] at e
  have hr : Dv.inR ((j : Nat) : Int) = true := by unfold Dv.inR; simp; omega
  have hz : ((j : Nat) : Int).toNat = j := by omega
  refine ⟨[none], ?_⟩
  exists y_law, e2_law, s_law_1, s_law_2, hm, hr, hz, e
end Lk29

set_option Elab.async false
set_option linter.all false
set_option maxRecDepth 100000
set_option maxHeartbeats 0
namespace Lk29
open PySem PySem.Spec PyProof.Rows L2 Dv
def dD (x : Str) (st : Stmt) : He.DefD := ⟨(x, none), x, x, defArgs st, defBody st, defScope st, [], []⟩
def fn0 : List He.DefD := [dD "_law_box" s__law_box, dD "_law_take" s__law_take, dD "_law_full" s__law_full, dD "_law_comb" s__law_comb, dD "_law_binary" s__law_binary, dD "_law_great" s__law_great, dD "_law_cell" s__law_cell, dD "is_integer" s_is_integer, dD "is_between" s_is_between, dD "choose" s_choose, dD "catalan" s_catalan, dD "tree_at" s_tree_at, dD "binaries" s_binaries, dD "is_binary" s_is_binary, dD "check_binary" s_check_binary, dD "turned" s_turned, dD "binary_mirror" s_binary_mirror, dD "_law_ways" s__law_ways, dD "_law_nodes" s__law_nodes, dD "size_of" s_size_of, dD "stretches_of" s_stretches_of, dD "height_in" s_height_in, dD "shortest_in" s_shortest_in, dD "fault_of" s_fault_of, dD "color_break" s_color_break, dD "numbers_of" s_numbers_of, dD "black_heights" s_black_heights, dD "_law_same" s__law_same, dD "height_of" s_height_of, dD "binary_height" s_binary_height]
def fn1 : List He.DefD := [dD "colored" s_colored, dD "coloring_of" s_coloring_of, dD "_law_size" s__law_size, dD "_law_blacks" s__law_blacks, dD "_law_shown" s__law_shown, dD "nodes_in" s_nodes_in, dD "has_red_pair" s_has_red_pair, dD "count_down" s_count_down, dD "shows_coloring" s_shows_coloring, dD "uneven_node" s_uneven_node, dD "_law_uneven" s__law_uneven, dD "_law_tree_right" s__law_tree_right, dD "_law_colors_right" s__law_colors_right, dD "law" s_law]
def fn : List He.DefD := fn0 ++ fn1
def fa0 : List He.Fa := [.glo "_law_box", .glo "_law_take", .glo "_law_full", .glo "_law_comb", .glo "_law_binary", .glo "_law_great", .glo "_law_cell", .glo "is_integer", .glo "is_between", .glo "choose", .glo "catalan", .glo "tree_at", .glo "binaries", .glo "is_binary", .glo "check_binary", .glo "turned", .glo "binary_mirror", .glo "_law_ways", .glo "_law_nodes", .glo "size_of", .glo "stretches_of", .glo "height_in", .glo "shortest_in", .glo "fault_of", .glo "color_break", .glo "numbers_of", .glo "black_heights", .glo "_law_same", .glo "height_of", .glo "binary_height"]
def fa1 : List He.Fa := [.glo "colored", .glo "coloring_of", .glo "_law_size", .glo "_law_blacks", .glo "_law_shown", .glo "nodes_in", .glo "has_red_pair", .glo "count_down", .glo "shows_coloring", .glo "uneven_node", .glo "_law_uneven", .glo "_law_tree_right", .glo "_law_colors_right", .glo "law", .free "abs", .free "all", .free "any", .free "bool", .free "dict", .free "enumerate", .free "int", .free "isinstance", .free "len", .free "list", .free "max", .free "min", .free "range", .free "str", .free "sum", .free "tuple"]
def fa2 : List He.Fa := [.str "BLACK" "black", .int "MOST_LISTED" 7, .int "MOST_NODES" 12, .str "RED" "red"]
def fa : List He.Fa := fa0 ++ fa1 ++ fa2
def names0 : List Str := ["TreeError", "InvalidBinary", "InvalidNumber", "is_integer", "is_between", "choose", "catalan", "is_binary", "check_binary", "size_of", "height_of", "binary_height", "turned", "binary_mirror", "tree_at", "binaries", "stretches_of", "height_in", "uneven_node", "shortest_in", "fault_of", "color_break", "colored", "numbers_of", "coloring_of", "black_heights", "count_down", "nodes_in", "has_red_pair", "shows_coloring"]
def names1 : List Str := ["_law_cell", "_law_box", "_law_take", "_law_same", "_law_binary", "_law_comb", "_law_size", "_law_ways", "_law_nodes", "_law_blacks", "_law_shown", "_law_uneven", "_law_tree_right", "_law_colors_right", "_law_full", "_law_great", "MOST_NODES", "MOST_LISTED", "RED", "BLACK"]
def names : List Str := names0 ++ names1
abbrev RO : PySem.W.OpenRow := PySem.W.OpenLaw.row PySem.Challenge.rw_treebench_k29_black_numbers_by_ways
abbrev hk : PySem.W.Hook := He.hookD 4 fa fn
def ob (s : PySem.W.SharedT) : He.AlD := He.obsDG 4 fa fn (HandSHeadRun.getT s)
theorem ob_eq (s : PySem.W.SharedT) : ob s = hk.obs s.abs := He.obsDG_eq (HandSHeadRun.getT_eq s)
theorem run (w : World) : HandSHeadRun.RunEq RO (PySem.W.view RO.prog [56]) hk ob 4000 names w := by
  intro os
  kernel_rfl
theorem txt {K : PySem.W.Frag} {h : Heap} {mg : Str → Option Value} (X : K.In h) (G : h.Ns mainGlobals mg) (c : He.SaysD fa fn K) : Txt K mg where
  d__law_box := ⟨He.glo_ok X G (c.fact 0 (f := .glo "_law_box") rfl), c.def_ 0 (d := dD "_law_box" s__law_box) rfl⟩
  d__law_take := ⟨He.glo_ok X G (c.fact 1 (f := .glo "_law_take") rfl), c.def_ 1 (d := dD "_law_take" s__law_take) rfl⟩
  d__law_full := ⟨He.glo_ok X G (c.fact 2 (f := .glo "_law_full") rfl), c.def_ 2 (d := dD "_law_full" s__law_full) rfl⟩
  d__law_comb := ⟨He.glo_ok X G (c.fact 3 (f := .glo "_law_comb") rfl), c.def_ 3 (d := dD "_law_comb" s__law_comb) rfl⟩
  d__law_binary := ⟨He.glo_ok X G (c.fact 4 (f := .glo "_law_binary") rfl), c.def_ 4 (d := dD "_law_binary" s__law_binary) rfl⟩
  d__law_great := ⟨He.glo_ok X G (c.fact 5 (f := .glo "_law_great") rfl), c.def_ 5 (d := dD "_law_great" s__law_great) rfl⟩
  d__law_cell := ⟨He.glo_ok X G (c.fact 6 (f := .glo "_law_cell") rfl), c.def_ 6 (d := dD "_law_cell" s__law_cell) rfl⟩
  d_is_integer := ⟨He.glo_ok X G (c.fact 7 (f := .glo "is_integer") rfl), c.def_ 7 (d := dD "is_integer" s_is_integer) rfl⟩
  d_is_between := ⟨He.glo_ok X G (c.fact 8 (f := .glo "is_between") rfl), c.def_ 8 (d := dD "is_between" s_is_between) rfl⟩
  d_choose := ⟨He.glo_ok X G (c.fact 9 (f := .glo "choose") rfl), c.def_ 9 (d := dD "choose" s_choose) rfl⟩
  d_catalan := ⟨He.glo_ok X G (c.fact 10 (f := .glo "catalan") rfl), c.def_ 10 (d := dD "catalan" s_catalan) rfl⟩
  d_tree_at := ⟨He.glo_ok X G (c.fact 11 (f := .glo "tree_at") rfl), c.def_ 11 (d := dD "tree_at" s_tree_at) rfl⟩
  d_binaries := ⟨He.glo_ok X G (c.fact 12 (f := .glo "binaries") rfl), c.def_ 12 (d := dD "binaries" s_binaries) rfl⟩
  d_is_binary := ⟨He.glo_ok X G (c.fact 13 (f := .glo "is_binary") rfl), c.def_ 13 (d := dD "is_binary" s_is_binary) rfl⟩
  d_check_binary := ⟨He.glo_ok X G (c.fact 14 (f := .glo "check_binary") rfl), c.def_ 14 (d := dD "check_binary" s_check_binary) rfl⟩
  d_turned := ⟨He.glo_ok X G (c.fact 15 (f := .glo "turned") rfl), c.def_ 15 (d := dD "turned" s_turned) rfl⟩
  d_binary_mirror := ⟨He.glo_ok X G (c.fact 16 (f := .glo "binary_mirror") rfl), c.def_ 16 (d := dD "binary_mirror" s_binary_mirror) rfl⟩
  d__law_ways := ⟨He.glo_ok X G (c.fact 17 (f := .glo "_law_ways") rfl), c.def_ 17 (d := dD "_law_ways" s__law_ways) rfl⟩
  d__law_nodes := ⟨He.glo_ok X G (c.fact 18 (f := .glo "_law_nodes") rfl), c.def_ 18 (d := dD "_law_nodes" s__law_nodes) rfl⟩
  d_size_of := ⟨He.glo_ok X G (c.fact 19 (f := .glo "size_of") rfl), c.def_ 19 (d := dD "size_of" s_size_of) rfl⟩
  d_stretches_of := ⟨He.glo_ok X G (c.fact 20 (f := .glo "stretches_of") rfl), c.def_ 20 (d := dD "stretches_of" s_stretches_of) rfl⟩
  d_height_in := ⟨He.glo_ok X G (c.fact 21 (f := .glo "height_in") rfl), c.def_ 21 (d := dD "height_in" s_height_in) rfl⟩
  d_shortest_in := ⟨He.glo_ok X G (c.fact 22 (f := .glo "shortest_in") rfl), c.def_ 22 (d := dD "shortest_in" s_shortest_in) rfl⟩
  d_fault_of := ⟨He.glo_ok X G (c.fact 23 (f := .glo "fault_of") rfl), c.def_ 23 (d := dD "fault_of" s_fault_of) rfl⟩
  d_color_break := ⟨He.glo_ok X G (c.fact 24 (f := .glo "color_break") rfl), c.def_ 24 (d := dD "color_break" s_color_break) rfl⟩
  d_numbers_of := ⟨He.glo_ok X G (c.fact 25 (f := .glo "numbers_of") rfl), c.def_ 25 (d := dD "numbers_of" s_numbers_of) rfl⟩
  d_black_heights := ⟨He.glo_ok X G (c.fact 26 (f := .glo "black_heights") rfl), c.def_ 26 (d := dD "black_heights" s_black_heights) rfl⟩
  d__law_same := ⟨He.glo_ok X G (c.fact 27 (f := .glo "_law_same") rfl), c.def_ 27 (d := dD "_law_same" s__law_same) rfl⟩
  d_height_of := ⟨He.glo_ok X G (c.fact 28 (f := .glo "height_of") rfl), c.def_ 28 (d := dD "height_of" s_height_of) rfl⟩
  d_binary_height := ⟨He.glo_ok X G (c.fact 29 (f := .glo "binary_height") rfl), c.def_ 29 (d := dD "binary_height" s_binary_height) rfl⟩
  d_colored := ⟨He.glo_ok X G (c.fact 30 (f := .glo "colored") rfl), c.def_ 30 (d := dD "colored" s_colored) rfl⟩
  d_coloring_of := ⟨He.glo_ok X G (c.fact 31 (f := .glo "coloring_of") rfl), c.def_ 31 (d := dD "coloring_of" s_coloring_of) rfl⟩
  d__law_size := ⟨He.glo_ok X G (c.fact 32 (f := .glo "_law_size") rfl), c.def_ 32 (d := dD "_law_size" s__law_size) rfl⟩
  d__law_blacks := ⟨He.glo_ok X G (c.fact 33 (f := .glo "_law_blacks") rfl), c.def_ 33 (d := dD "_law_blacks" s__law_blacks) rfl⟩
  d__law_shown := ⟨He.glo_ok X G (c.fact 34 (f := .glo "_law_shown") rfl), c.def_ 34 (d := dD "_law_shown" s__law_shown) rfl⟩
  d_nodes_in := ⟨He.glo_ok X G (c.fact 35 (f := .glo "nodes_in") rfl), c.def_ 35 (d := dD "nodes_in" s_nodes_in) rfl⟩
  d_has_red_pair := ⟨He.glo_ok X G (c.fact 36 (f := .glo "has_red_pair") rfl), c.def_ 36 (d := dD "has_red_pair" s_has_red_pair) rfl⟩
  d_count_down := ⟨He.glo_ok X G (c.fact 37 (f := .glo "count_down") rfl), c.def_ 37 (d := dD "count_down" s_count_down) rfl⟩
  d_shows_coloring := ⟨He.glo_ok X G (c.fact 38 (f := .glo "shows_coloring") rfl), c.def_ 38 (d := dD "shows_coloring" s_shows_coloring) rfl⟩
  d_uneven_node := ⟨He.glo_ok X G (c.fact 39 (f := .glo "uneven_node") rfl), c.def_ 39 (d := dD "uneven_node" s_uneven_node) rfl⟩
  d__law_uneven := ⟨He.glo_ok X G (c.fact 40 (f := .glo "_law_uneven") rfl), c.def_ 40 (d := dD "_law_uneven" s__law_uneven) rfl⟩
  d__law_tree_right := ⟨He.glo_ok X G (c.fact 41 (f := .glo "_law_tree_right") rfl), c.def_ 41 (d := dD "_law_tree_right" s__law_tree_right) rfl⟩
  d__law_colors_right := ⟨He.glo_ok X G (c.fact 42 (f := .glo "_law_colors_right") rfl), c.def_ 42 (d := dD "_law_colors_right" s__law_colors_right) rfl⟩
  d_law := ⟨He.glo_ok X G (c.fact 43 (f := .glo "law") rfl), c.def_ 43 (d := dD "law" s_law) rfl⟩
  z_abs := He.free_ok X G (c.fact 44 (f := .free "abs") rfl)
  z_all := He.free_ok X G (c.fact 45 (f := .free "all") rfl)
  z_any := He.free_ok X G (c.fact 46 (f := .free "any") rfl)
  z_bool := He.free_ok X G (c.fact 47 (f := .free "bool") rfl)
  z_dict := He.free_ok X G (c.fact 48 (f := .free "dict") rfl)
  z_enumerate := He.free_ok X G (c.fact 49 (f := .free "enumerate") rfl)
  z_int := He.free_ok X G (c.fact 50 (f := .free "int") rfl)
  z_isinstance := He.free_ok X G (c.fact 51 (f := .free "isinstance") rfl)
  z_len := He.free_ok X G (c.fact 52 (f := .free "len") rfl)
  z_list := He.free_ok X G (c.fact 53 (f := .free "list") rfl)
  z_max := He.free_ok X G (c.fact 54 (f := .free "max") rfl)
  z_min := He.free_ok X G (c.fact 55 (f := .free "min") rfl)
  z_range := He.free_ok X G (c.fact 56 (f := .free "range") rfl)
  z_str := He.free_ok X G (c.fact 57 (f := .free "str") rfl)
  z_sum := He.free_ok X G (c.fact 58 (f := .free "sum") rfl)
  z_tuple := He.free_ok X G (c.fact 59 (f := .free "tuple") rfl)
  c_BLACK := He.str_ok X G (c.fact 60 (f := .str "BLACK" "black") rfl)
  c_MOST_LISTED := He.int_ok X G (c.fact 61 (f := .int "MOST_LISTED" 7) rfl)
  c_MOST_NODES := He.int_ok X G (c.fact 62 (f := .int "MOST_NODES" 12) rfl)
  c_RED := He.str_ok X G (c.fact 63 (f := .str "RED" "red") rfl)
theorem facts {P : Program} {w : World} {K : PySem.W.Frag} {h : Heap} {mg : Str → Option Value} {f : Addr} (X : K.In h) (G : h.Ns mainGlobals mg) (hfa : mg ("law" : Str) = some (.ref f)) (c : He.SaysD fa fn K) :
    ∃ fd : FuncData, (∀ (s : Shared) (v : Value), BindsTo s fd ⟨[v], []⟩ [("script", v)]) ∧ ∀ base : Heap, K.In base → base.Ns mainGlobals mg → FnOk P w K mg base CX0 35 f fd ["script"] (spD K 1 m_law) := by
  have T := txt X G c
  obtain ⟨fd, Fn0⟩ := ok_law (P := P) (w := w) (base := h) T
  have e := hfa.symm.trans Fn0.gl
  cases e
  have b := FunD.bindsA (ps := ["script"]) Fn0.fu fun _ _ _ _ _ _ us hl => match us, hl with | [_], _ => rfl
  refine ⟨fd, fun s v => b s [v] rfl, fun base _ _ => ?_⟩
  obtain ⟨fd', Fn1⟩ := ok_law (P := P) (w := w) (base := base) T
  have : fd' = fd := by
    obtain ⟨oc, od, dV, kV, doc, pm, an, cdv, ct, osl, e1, l1, _⟩ := Fn0.fu.ex
    obtain ⟨oc', od', dV', kV', doc', pm', an', cdv', ct', osl', e2, l2, _⟩ := Fn1.fu.ex
    rw [l1] at l2
    injection l2 with l2
    injection l2 with _ _ l2 _
    injection l2 with l2
    exact l2.symm
  subst this
  exact Fn1.ok
end Lk29
open PySem PySem.W PySem.Calls PyProof.Rows
theorem PySem.Challenge.cw_treebench_k29_black_numbers_by_ways_holds : PySem.Challenge.rw_treebench_k29_black_numbers_by_ways.Holds := by
  w_on; o_law
  refine HandSHeadRun.head_any (r := OpenLaw.row PySem.Challenge.rw_treebench_k29_black_numbers_by_ways) (q := view (OpenLaw.row PySem.Challenge.rw_treebench_k29_black_numbers_by_ways).prog [56]) (H := Lk29.hk) (ob := Lk29.ob) (M := 4000) (loose := Lk29.names) (d := HandSHeadRun.topDef (OpenLaw.row PySem.Challenge.rw_treebench_k29_black_numbers_by_ways).prog 56) (kwd := []) Lk29.ob_eq
    (by kernel_rfl) (fun s => by kernel_rfl) Lk29.run (by kernel_rfl) (by kernel_rfl) (by kernel_rfl) (by rfl) (by first | assumption | decide +kernel) (by decide +kernel) ⟨rfl, rfl, rfl, rfl, rfl, by decide +kernel⟩ ?hw ?hc
  case hw => w_witness2
  case hc =>
    refine L2.walk_ofE (l := PySem.Challenge.rw_treebench_k29_black_numbers_by_ways) (n := 63) (k := 35) (x := "script") (CX := L2.CX0) rfl (by decide) (by kernel_rfl) ⟨rfl, by decide, by decide⟩ ?F (fun _ _ _ _ z => z)
    intro w mg fa h Y G hmg0
    obtain ⟨K, KX, c⟩ := Y
    have hmg : mg ("law" : PySem.Str) = some (.ref fa) := by
      have e : (HandSHeadRun.topDef (OpenLaw.row PySem.Challenge.rw_treebench_k29_black_numbers_by_ways).prog 56).name = ("law" : PySem.Str) := by kernel_rfl
      rw [← e]
      exact hmg0
    obtain ⟨fd, hb, hF⟩ := Lk29.facts (P := (PySem.Challenge.rw_treebench_k29_black_numbers_by_ways).prog) (w := w) KX G hmg c
    exact ⟨K, fd, _, KX, hb, fun H a ns hl _ hS => Dv.law_in hS (Lk29.law_true ns hl), hF⟩
