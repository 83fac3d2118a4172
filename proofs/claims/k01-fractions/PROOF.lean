import PyProof.Rows.All
import Wide.All
import OpenK.AllK
import Wide.FinOn
import HandS.ForMost
import HandS.Wide
import HandS.Style
import HandS.TupAny
import HandS.Conv
import HandS.IsInst
import HandS.WordsExc
import PySem.Challenge.RW_ringsigns_k01_fractions
set_option Elab.async false
set_option linter.all false
set_option maxRecDepth 100000
namespace DL
open PySem PySem.Spec PyProof.Rows L2

/-! ## data -/
inductive D where
  | non | bl (b : Bool) | int (i : Int) | str (x : Str) | tup (xs : List D) | lst (xs : List D)
  deriving Inhabited
/-- a slot: unset, a value, a list that this frame owns -/
inductive Sl where
  | un | val (d : D) | own (xs : List D)
  deriving Inhabited
abbrev Loc := List Sl
/-- an exception: its class, its attributes -/
structure Exn where
  c : Nat
  fs : List (Nat × D)
inductive R (α : Type) where
  | ok (a : α) | exc (x : Exn) (l : Loc) | bad
@[reducible] def R.bind {α β : Type} (r : R α) (f : α → R β) : R β := match r with
  | .ok a => f a
  | .exc x l => .exc x l
  | .bad => .bad
@[simp] theorem R.bind_ok {α β : Type} (a : α) (f : α → R β) : (R.ok a).bind f = f a := rfl
@[simp] theorem R.bind_exc {α β : Type} (x : Exn) (l : Loc) (f : α → R β) : (R.exc x l : R α).bind f = .exc x l := rfl
@[simp] theorem R.bind_bad {α β : Type} (f : α → R β) : (R.bad : R α).bind f = .bad := rfl

/-! ## a value in the abstract heap -/
def SeqL (K : PySem.W.Frag) (F : Addr → Prop) (H : Hp) (a : Addr) (xs : List V) : Prop :=
  (Rd H a (.lst xs) ∧ ¬ F a) ∨
    ∃ (o : Obj) (its : Array Value) (n : Nat), K.lookup a = some o ∧ o.cls = .type "list" ∧ o.dict = none ∧ o.data = .seq its n ∧ its.size ≤ sizeLine ∧ Vals xs its.toList
def SeqT (K : PySem.W.Frag) (F : Addr → Prop) (H : Hp) (a : Addr) (xs : List V) : Prop :=
  (Rd H a (.tup xs) ∧ ¬ F a) ∨
    ∃ (o : Obj) (its : Array Value) (n : Nat), K.lookup a = some o ∧ o.cls = .type "tuple" ∧ o.data = .seq its n ∧ its.size ≤ sizeLine ∧ Vals xs its.toList
theorem SeqL.sq {K : PySem.W.Frag} {F : Addr → Prop} {H : Hp} {a : Addr} {xs : List V} (h : SeqL K F H a xs) : SqL K H a xs := h.elim (fun x => .inl x.1) .inr
theorem SeqT.sq {K : PySem.W.Frag} {F : Addr → Prop} {H : Hp} {a : Addr} {xs : List V} (h : SeqT K F H a xs) : SqT K H a xs := h.elim (fun x => .inl x.1) .inr

mutual
/-- v is the value d; no list within it stands at a place of F -/
def Rep (K : PySem.W.Frag) (F : Addr → Prop) (H : Hp) : V → D → Prop
  | v, .non => v = .non
  | v, .bl b => v = .bl b
  | v, .int i => v = .int i
  | v, .str x => v = .str x
  | v, .tup ds => ∃ a vs, v = .ref a ∧ SeqT K F H a vs ∧ RepL K F H vs ds
  | v, .lst ds => ∃ a vs, v = .ref a ∧ SeqL K F H a vs ∧ RepL K F H vs ds
def RepL (K : PySem.W.Frag) (F : Addr → Prop) (H : Hp) : List V → List D → Prop
  | vs, [] => vs = []
  | vs, d :: ds => ∃ v r, vs = v :: r ∧ Rep K F H v d ∧ RepL K F H r ds
end

section
variable {K : PySem.W.Frag} {F F' : Addr → Prop} {H H' : Hp} {v : V} {vs : List V}
theorem RepL.length : ∀ {ds : List D} {vs : List V}, RepL K F H vs ds → vs.length = ds.length
  | [], vs, h => by rw [RepL] at h; rw [h]; rfl
  | d :: ds, vs, h => by
    rw [RepL] at h
    obtain ⟨v, r, rfl, _, h2⟩ := h
    simp [RepL.length h2]
theorem RepL.cons {d : D} {ds : List D} (h : Rep K F H v d) (t : RepL K F H vs ds) : RepL K F H (v :: vs) (d :: ds) := by
  rw [RepL]; exact ⟨v, vs, rfl, h, t⟩
theorem RepL.nil : RepL K F H [] [] := by rw [RepL]
theorem RepL.get : ∀ {ds : List D} {vs : List V} {i : Nat} {v : V}, RepL K F H vs ds → vs[i]? = some v → ∃ d, ds[i]? = some d ∧ Rep K F H v d
  | [], vs, i, v, h, e => by rw [RepL] at h; rw [h] at e; simp at e
  | d :: ds, vs, i, v, h, e => by
    rw [RepL] at h
    obtain ⟨w, r, rfl, h1, h2⟩ := h
    cases i with
    | zero => simp at e; subst e; exact ⟨d, rfl, h1⟩
    | succ i => simp at e; obtain ⟨d', e', q⟩ := RepL.get h2 e; exact ⟨d', by simpa using e', q⟩
theorem RepL.get' {ds : List D} {i : Nat} {d : D} (h : RepL K F H vs ds) (e : ds[i]? = some d) : ∃ v, vs[i]? = some v ∧ Rep K F H v d := by
  have hi : i < ds.length := (List.getElem?_eq_some_iff.mp e).1
  have hv : i < vs.length := by rw [h.length]; exact hi
  obtain ⟨d', e', q⟩ := h.get (List.getElem?_eq_getElem hv)
  rw [e] at e'; cases e'
  exact ⟨_, List.getElem?_eq_getElem hv, q⟩
theorem RepL.append : ∀ {ds es : List D} {vs ws : List V}, RepL K F H vs ds → RepL K F H ws es → RepL K F H (vs ++ ws) (ds ++ es)
  | [], es, vs, ws, h, q => by rw [RepL] at h; subst h; exact q
  | d :: ds, es, vs, ws, h, q => by
    rw [RepL] at h
    obtain ⟨v, r, rfl, h1, h2⟩ := h
    exact RepL.cons h1 (RepL.append h2 q)
theorem RepL.take : ∀ {ds : List D} {vs : List V} (n : Nat), RepL K F H vs ds → RepL K F H (vs.take n) (ds.take n)
  | _, _, 0, _ => by simpa using RepL.nil
  | [], vs, n + 1, h => by rw [RepL] at h; subst h; simpa using RepL.nil
  | d :: ds, vs, n + 1, h => by
    rw [RepL] at h
    obtain ⟨v, r, rfl, h1, h2⟩ := h
    exact RepL.cons h1 (RepL.take n h2)
theorem RepL.drop : ∀ {ds : List D} {vs : List V} (n : Nat), RepL K F H vs ds → RepL K F H (vs.drop n) (ds.drop n)
  | _, _, 0, h => h
  | [], vs, n + 1, h => by rw [RepL] at h; subst h; simpa using RepL.nil
  | d :: ds, vs, n + 1, h => by
    rw [RepL] at h
    obtain ⟨v, r, rfl, h1, h2⟩ := h
    exact RepL.drop n h2
theorem RepL.set : ∀ {ds : List D} {vs : List V} {v : V} {d : D} (n : Nat), Rep K F H v d → RepL K F H vs ds → RepL K F H (vs.set n v) (ds.set n d)
  | [], vs, v, d, n, q, h => by rw [RepL] at h; subst h; simpa using RepL.nil
  | e :: ds, vs, v, d, 0, q, h => by
    rw [RepL] at h
    obtain ⟨w, r, rfl, h1, h2⟩ := h
    exact RepL.cons q h2
  | e :: ds, vs, v, d, n + 1, q, h => by
    rw [RepL] at h
    obtain ⟨w, r, rfl, h1, h2⟩ := h
    exact RepL.cons h1 (RepL.set n q h2)
theorem RepL.reverse : ∀ {ds : List D} {vs : List V}, RepL K F H vs ds → RepL K F H vs.reverse ds.reverse
  | [], vs, h => by rw [RepL] at h; subst h; simpa using RepL.nil
  | d :: ds, vs, h => by
    rw [RepL] at h
    obtain ⟨v, r, rfl, h1, h2⟩ := h
    simp only [List.reverse_cons]
    exact RepL.append (RepL.reverse h2) (RepL.cons h1 RepL.nil)

theorem SeqL.move {a : Addr} {xs : List V} (h : SeqL K F H a xs) (e : ∀ b u, ¬ F b → H b = some u → H' b = some u) (g : ∀ b, F' b → F b ∨ H b = none) : SeqL K F' H' a xs := by
  rcases h with ⟨h | ⟨o, h⟩, n⟩ | h
  · refine .inl ⟨.inl (e _ _ n h), fun z => ?_⟩
    rcases g a z with q | q
    · exact n q
    · rw [h] at q; cases q
  · refine .inl ⟨.inr ⟨o, e _ _ n h⟩, fun z => ?_⟩
    rcases g a z with q | q
    · exact n q
    · rw [h] at q; cases q
  · exact .inr h
theorem SeqT.move {a : Addr} {xs : List V} (h : SeqT K F H a xs) (e : ∀ b u, ¬ F b → H b = some u → H' b = some u) (g : ∀ b, F' b → F b ∨ H b = none) : SeqT K F' H' a xs := by
  rcases h with ⟨h | ⟨o, h⟩, n⟩ | h
  · refine .inl ⟨.inl (e _ _ n h), fun z => ?_⟩
    rcases g a z with q | q
    · exact n q
    · rw [h] at q; cases q
  · refine .inl ⟨.inr ⟨o, e _ _ n h⟩, fun z => ?_⟩
    rcases g a z with q | q
    · exact n q
    · rw [h] at q; cases q
  · exact .inr h
mutual
theorem Rep.move (e : ∀ b u, ¬ F b → H b = some u → H' b = some u) (g : ∀ b, F' b → F b ∨ H b = none) : ∀ (d : D) (v : V), Rep K F H v d → Rep K F' H' v d
  | .non, v, h => by rw [Rep] at h ⊢; exact h
  | .bl _, v, h => by rw [Rep] at h ⊢; exact h
  | .int _, v, h => by rw [Rep] at h ⊢; exact h
  | .str _, v, h => by rw [Rep] at h ⊢; exact h
  | .tup ds, v, h => by
    rw [Rep] at h ⊢
    obtain ⟨a, vs, h1, h2, h3⟩ := h
    exact ⟨a, vs, h1, h2.move e g, RepL.move e g ds vs h3⟩
  | .lst ds, v, h => by
    rw [Rep] at h ⊢
    obtain ⟨a, vs, h1, h2, h3⟩ := h
    exact ⟨a, vs, h1, h2.move e g, RepL.move e g ds vs h3⟩
theorem RepL.move (e : ∀ b u, ¬ F b → H b = some u → H' b = some u) (g : ∀ b, F' b → F b ∨ H b = none) : ∀ (ds : List D) (vs : List V), RepL K F H vs ds → RepL K F' H' vs ds
  | [], vs, h => by rw [RepL] at h ⊢; exact h
  | d :: ds, vs, h => by
    rw [RepL] at h ⊢
    obtain ⟨v, r, h1, h2, h3⟩ := h
    exact ⟨v, r, h1, Rep.move e g d v h2, RepL.move e g ds r h3⟩
end
theorem Rep.mono {d : D} (h : Rep K F H v d) (g : ∀ b, F' b → F b) : Rep K F' H v d := h.move (fun _ _ _ q => q) (fun b z => .inl (g b z))
theorem RepL.mono {ds : List D} (h : RepL K F H vs ds) (g : ∀ b, F' b → F b) : RepL K F' H vs ds := h.move (fun _ _ _ q => q) (fun b z => .inl (g b z))
end

/-! ## how a heap goes on -/
abbrev Ad := Addr → Prop
/-- M: what may be changed -/
structure Step (M : Ad) (H : Hp) (M' : Ad) (H' : Hp) : Prop where
  ext : ∀ b u, ¬ M b → H b = some u → H' b = some u
  non : ∀ b, H' b = none → H b = none
  grow : ∀ b, M' b → M b ∨ H b = none
section
variable {M M' M1 M2 : Ad} {H H' H1 H2 : Hp}
theorem Step.refl : Step M H M H := ⟨fun _ _ _ q => q, fun _ q => q, fun _ z => .inl z⟩
theorem Step.trans (a : Step M H M1 H1) (b : Step M1 H1 M2 H2) : Step M H M2 H2 where
  ext := fun c u n e => b.ext c u (fun z => (a.grow c z).elim n (fun q => by rw [e] at q; cases q)) (a.ext c u n e)
  non := fun c e => a.non c (b.non c e)
  grow := fun c z => (b.grow c z).elim (a.grow c) (fun q => .inr (a.non c q))
theorem Step.less (a : Step M H M1 H1) (h : ∀ b, M2 b → M1 b) : Step M H M2 H1 := ⟨a.ext, a.non, fun b z => a.grow b (h b z)⟩
/-- a new object -/
theorem Step.new {p : Addr} {o : HO} (n : H p = none) : Step M H M (upd H p o) where
  ext := fun b u _ e => by rw [upd_ne (ne_of_none e n)]; exact e
  non := fun b e => by
    by_cases hb : b = p
    · rw [hb, upd_same] at e; cases e
    · rw [upd_ne hb] at e; exact e
  grow := fun b z => .inl z
/-- .. that may be changed from now on -/
theorem Step.newM {p : Addr} {o : HO} (n : H p = none) : Step M H (fun b => M b ∨ b = p) (upd H p o) where
  ext := (Step.new (M := M) n).ext
  non := (Step.new (M := M) (o := o) n).non
  grow := fun b z => z.elim .inl (fun e => .inr (by rw [e]; exact n))
/-- an own object is changed -/
theorem Step.put {p : Addr} {o : HO} {u : HO} (m : M p) (e : H p = some u) : Step M H M (upd H p o) where
  ext := fun b w n q => by
    have hb : b ≠ p := fun z => n (by rw [z]; exact m)
    rw [upd_ne hb]; exact q
  non := fun b q => by
    by_cases hb : b = p
    · rw [hb, upd_same] at q; cases q
    · rw [upd_ne hb] at q; exact q
  grow := fun _ z => .inl z
end

/-- all that is forbidden to frozen lists -/
abbrev Fb (X M : Ad) : Ad := fun a => X a ∨ M a
section
variable {K : PySem.W.Frag} {X M M' : Ad} {H H' : Hp} {v : V} {vs : List V} {d : D} {ds : List D}
theorem Step.fb (s : Step M H M' H') : ∀ b, Fb X M' b → Fb X M b ∨ H b = none := fun b z => z.elim (fun x => .inl (.inl x)) (fun m => (s.grow b m).elim (fun q => .inl (.inr q)) .inr)
theorem Rep.step (s : Step M H M' H') (h : Rep K (Fb X M) H v d) : Rep K (Fb X M') H' v d := h.move (fun b u n e => s.ext b u (fun z => n (.inr z)) e) s.fb
theorem RepL.step (s : Step M H M' H') (h : RepL K (Fb X M) H vs ds) : RepL K (Fb X M') H' vs ds := h.move (fun b u n e => s.ext b u (fun z => n (.inr z)) e) s.fb
end

/-! ## the slots of a frame -/
structure RepLoc (K : PySem.W.Frag) (X M : Ad) (σ : L2.St) (H : Hp) (l : Loc) : Prop where
  len : σ.length = l.length
  val : ∀ (i : Nat) d, l[i]? = some (.val d) → ∃ v, σ[i]? = some (some v) ∧ Rep K (Fb X M) H v d
  own : ∀ (i : Nat) ds, l[i]? = some (.own ds) → ∃ a vs, σ[i]? = some (some (.ref a)) ∧ M a ∧ H a = some (.lst vs) ∧ RepL K (Fb X M) H vs ds
  inj : ∀ (i j : Nat) (a : Addr) ds es, l[i]? = some (.own ds) → l[j]? = some (.own es) → σ[i]? = some (some (.ref a)) → σ[j]? = some (some (.ref a)) → i = j
  trk : ∀ a, X a ∨ M a → ∃ vs, H a = some (.lst vs)
  dis : ∀ a, X a → ¬ M a
/-- a value, or a list of its own -/
def RepR (K : PySem.W.Frag) (X M : Ad) (σ : L2.St) (l : Loc) (H : Hp) (v : V) : Sl → Prop
  | .un => False
  | .val d => Rep K (Fb X M) H v d
  | .own ds => ∃ a vs, v = .ref a ∧ M a ∧ H a = some (.lst vs) ∧ RepL K (Fb X M) H vs ds ∧ ∀ (i : Nat) es, l[i]? = some (.own es) → σ[i]? ≠ some (some (.ref a))
def Sl.d : Sl → D
  | .un => .non
  | .val d => d
  | .own ds => .lst ds
@[simp] theorem Sl.d_val (d : D) : (Sl.val d).d = d := rfl
@[simp] theorem Sl.d_own (ds : List D) : (Sl.own ds).d = .lst ds := rfl

section
variable {K : PySem.W.Frag} {X M M' : Ad} {σ : L2.St} {H H' : Hp} {l : Loc} {v : V}
theorem RepLoc.fresh (r : RepLoc K X M σ H l) {p : Addr} (n : H p = none) : ¬ Fb X M p := fun z => by
  obtain ⟨vs, e⟩ := r.trk p z
  rw [n] at e; cases e
/-- an object is laid -/
theorem RepLoc.new (r : RepLoc K X M σ H l) {p : Addr} {o : HO} (n : H p = none) : RepLoc K X M σ (upd H p o) l where
  len := r.len
  val := fun i d e => let ⟨v, h1, h2⟩ := r.val i d e; ⟨v, h1, h2.step (Step.new n)⟩
  own := fun i ds e => by
    obtain ⟨a, vs, h1, h2, h3, h4⟩ := r.own i ds e
    exact ⟨a, vs, h1, h2, by rw [upd_ne (ne_of_none h3 n)]; exact h3, h4.step (Step.new n)⟩
  inj := r.inj
  trk := fun a z => by
    obtain ⟨vs, e⟩ := r.trk a z
    exact ⟨vs, by rw [upd_ne (ne_of_none e n)]; exact e⟩
  dis := r.dis
/-- .. and is one's own -/
theorem RepLoc.newM (r : RepLoc K X M σ H l) {p : Addr} {vs : List V} (n : H p = none) : RepLoc K X (fun b => M b ∨ b = p) σ (upd H p (.lst vs)) l where
  len := r.len
  val := fun i d e => let ⟨v, h1, h2⟩ := r.val i d e; ⟨v, h1, h2.step (Step.newM n)⟩
  own := fun i ds e => by
    obtain ⟨a, vs, h1, h2, h3, h4⟩ := r.own i ds e
    exact ⟨a, vs, h1, .inl h2, by rw [upd_ne (ne_of_none h3 n)]; exact h3, h4.step (Step.newM n)⟩
  inj := r.inj
  trk := fun a z => by
    by_cases ha : a = p
    · rw [ha, upd_same]; exact ⟨vs, rfl⟩
    · obtain ⟨ws, e⟩ := r.trk a (z.elim .inl (fun q => q.elim .inr (fun e => absurd e ha)))
      exact ⟨ws, by rw [upd_ne ha]; exact e⟩
  dis := fun a x z => z.elim (r.dis a x) (fun e => r.fresh (p := p) n (.inl (by rw [← e]; exact x)))
/-- an own list outside the slots becomes a frozen one -/
theorem RepLoc.less (r : RepLoc K X M σ H l) (p : Addr) (h : ∀ (i : Nat) es, l[i]? = some (.own es) → σ[i]? ≠ some (some (.ref p))) : RepLoc K X (fun b => M b ∧ b ≠ p) σ H l where
  len := r.len
  val := fun i d e => let ⟨v, h1, h2⟩ := r.val i d e; ⟨v, h1, h2.mono fun b z => z.elim .inl (fun q => .inr q.1)⟩
  own := fun i ds e => by
    obtain ⟨a, vs, h1, h2, h3, h4⟩ := r.own i ds e
    exact ⟨a, vs, h1, ⟨h2, fun z => h i ds e (by rw [← z]; exact h1)⟩, h3, h4.mono fun b z => z.elim .inl (fun q => .inr q.1)⟩
  inj := r.inj
  trk := fun a z => r.trk a (z.elim .inl (fun q => .inr q.1))
  dis := fun a x z => r.dis a x z.1
/-- a value of any kind as plain data; what it costs -/
theorem RepR.frozen {s : Sl} (r : RepLoc K X M σ H l) (h : RepR K X M σ l H v s) : ∃ M', (∀ b, M' b → M b) ∧ RepLoc K X M' σ H l ∧ Rep K (Fb X M') H v s.d := by
  cases s with
  | un => exact h.elim
  | val d => exact ⟨M, fun _ z => z, r, h⟩
  | own ds =>
    obtain ⟨a, vs, rfl, h1, h2, h3, h4⟩ := h
    refine ⟨fun b => M b ∧ b ≠ a, fun _ z => z.1, r.less a h4, ?_⟩
    show Rep K _ H (.ref a) (.lst ds)
    rw [Rep]
    exact ⟨a, vs, rfl, .inl ⟨.inl h2, fun z => z.elim (fun x => r.dis a x h1) (fun q => q.2 rfl)⟩, h3.mono fun b z => z.elim .inl (fun q => .inr q.1)⟩
/-- slot i is demoted -/
theorem RepLoc.demote (r : RepLoc K X M σ H l) {i : Nat} {ds : List D} (e : l[i]? = some (.own ds)) : ∃ M', (∀ b, M' b → M b) ∧ RepLoc K X M' σ H (l.set i (.val (.lst ds))) ∧ ∃ v, σ[i]? = some (some v) ∧ Rep K (Fb X M') H v (.lst ds) := by
  obtain ⟨a, vs, h1, h2, h3, h4⟩ := r.own i ds e
  have hi : i < l.length := (List.getElem?_eq_some_iff.mp e).1
  have hr : Rep K (Fb X fun b => M b ∧ b ≠ a) H (.ref a) (.lst ds) := by
    rw [Rep]
    exact ⟨a, vs, rfl, .inl ⟨.inl h3, fun z => z.elim (fun x => r.dis a x h2) (fun q => q.2 rfl)⟩, h4.mono fun b z => z.elim .inl (fun q => .inr q.1)⟩
  have nj : ∀ (j : Nat) es, (l.set i (.val (.lst ds)))[j]? = some (.own es) → j ≠ i ∧ l[j]? = some (.own es) := fun j es q => by
    by_cases hj : j = i
    · subst hj; rw [List.getElem?_set_self hi] at q; cases q
    · rw [List.getElem?_set_ne (Ne.symm hj)] at q; exact ⟨hj, q⟩
  refine ⟨fun b => M b ∧ b ≠ a, fun _ z => z.1, ⟨by rw [List.length_set]; exact r.len, fun j d q => ?_, fun j es q => ?_, fun j k b es fs q1 q2 => ?_, fun b z => r.trk b (z.elim .inl (fun q => .inr q.1)), fun b x z => r.dis b x z.1⟩, .ref a, h1, hr⟩
  · by_cases hj : j = i
    · subst hj; rw [List.getElem?_set_self hi] at q
      cases q
      exact ⟨.ref a, h1, hr⟩
    · rw [List.getElem?_set_ne (Ne.symm hj)] at q
      obtain ⟨v, g1, g2⟩ := r.val j d q
      exact ⟨v, g1, g2.mono fun b z => z.elim .inl (fun q => .inr q.1)⟩
  · obtain ⟨hj, q⟩ := nj j es q
    obtain ⟨b, ws, g1, g2, g3, g4⟩ := r.own j es q
    refine ⟨b, ws, g1, ⟨g2, fun z => hj ?_⟩, g3, g4.mono fun b z => z.elim .inl (fun q => .inr q.1)⟩
    subst z
    exact r.inj j i b es ds q e g1 h1
  · obtain ⟨_, q1⟩ := nj j es q1
    obtain ⟨_, q2⟩ := nj k fs q2
    exact r.inj j k b es fs q1 q2
end
end DL

set_option Elab.async false
set_option linter.all false
set_option maxRecDepth 100000
namespace DL
open PySem PySem.Spec PyProof.Rows L2

/-! ## the small language -/
inductive Prim where
  | add | sub | mul | fdiv | mod | pow | neg
  | eq | ne | lt | le | gt | ge | iz | izn | isin | notin
  | ix
  | abs | len | int | lst | tup | ist (T : Nat) | mn | mx | rgl | rgt
  deriving DecidableEq, Inhabited
inductive Tg where
  | name (i : Nat) | tup (ts : List Tg)
  deriving Inhabited
inductive E where
  | var (i : Nat) | cst (d : D) | prim (p : Prim) (es : List E) | pack (t : Bool) (es : List E)
  | and (a b : E) | or (a b : E) | not (a : E) | ite (c a b : E) | chain (p q : Prim) (a b c : E)
  | call (f : Nat) (rf : Option Nat) (pm : List Nat) (es : List E)
  | slc (a : E) (b1 b2 : Bool) (es : List E)
  | comp (elt : E) (tg : Tg) (ik : Nat) (ies : List E) (ifs : List E) (ws : List Nat)
  deriving Inhabited
inductive S where
  | set (i : Nat) (e : E) | asg (t : Tg) (e : E) | par (is : List Nat) (es : List E) | aug (i : Nat) (p : Prim) (e : E)
  | setix (i : Nat) (k e : E) | augix (i : Nat) (k : E) (p : Prim) (e : E) | app (i : Nat) (e : E) | ex (e : E)
  | ite (c : E) (a b : List S) | whl (c : E) (b : List S) | fer (t : Tg) (ik : Nat) (ies : List E) (b : List S)
  | ret (e : E) | retv (i : Nat) | brk | cnt | pas
  deriving Inhabited

/-! ## data -/
mutual
def toPy : D → PyData
  | .non => .none
  | .bl b => .bool b
  | .int i => .int i
  | .str x => .str x
  | .tup ds => .tuple (toPyL ds)
  | .lst ds => .list (toPyL ds)
def toPyL : List D → List PyData
  | [] => []
  | d :: ds => toPy d :: toPyL ds
end
def okEq (d : D) : Bool := SeqAt.shaped (toPy d)
def eqD (d e : D) : Bool := PyData.eqv (toPy d) (toPy e)
mutual
def nolst : D → Bool
  | .tup ds => nolstL ds
  | .lst _ => false
  | _ => true
def nolstL : List D → Bool
  | [] => true
  | d :: ds => nolst d && nolstL ds
end
def truth : D → Option Bool
  | .non => some false
  | .bl b => some b
  | .int i => some (i != 0)
  | .str x => if x.length ≤ 16777216 then some ((x.length : Int) != 0) else none
  | .tup ds => some !ds.isEmpty
  | .lst ds => some !ds.isEmpty
def mulOk (i j : Int) : Bool := decide (-(2 ^ 64) < i ∧ i < 2 ^ 64) || decide (-(2 ^ 64) < j ∧ j < 2 ^ 64) || decide (i.natAbs.log2 + j.natAbs.log2 < 1000000)
def cutD (xs : List D) (lo hi : Option Int) : List D := (xs.drop (HT.sIx xs.length 0 lo)).take (HT.sIx xs.length xs.length hi - HT.sIx xs.length 0 lo)
def flatD : D → Bool
  | .non | .bl _ | .int _ | .str _ => true
  | _ => false
def rgD (a b : Int) : List D := (List.range (b - a).toNat).map fun i => .int (a + (i : Nat))
def rgOk (a b : Int) : Bool := decide (-(2 ^ 62) ≤ a ∧ a < 2 ^ 62 ∧ -(2 ^ 62) ≤ b ∧ b < 2 ^ 62 ∧ (b - a).toNat ≤ 2 ^ 24)
def istD : Nat → D → Bool
  | 0, .int _ => true | 0, .bl _ => true
  | 1, .bl _ => true
  | 2, .str _ => true
  | 3, .tup _ => true
  | 4, .lst _ => true
  | _, _ => false
def partsD : Bool → Bool → List Int → Option (Option Int × Option Int)
  | false, false, [] => some (none, none)
  | true, false, [a] => some (some a, none)
  | false, true, [b] => some (none, some b)
  | true, true, [a, b] => some (some a, some b)
  | _, _, _ => none
def slD (d : D) (p : Option Int × Option Int) : Option Sl := match d with
  | .tup xs => some (.val (.tup (cutD xs p.1 p.2)))
  | .lst xs => some (.own (cutD xs p.1 p.2))
  | _ => none
def isNonD : D → Bool
  | .non => true
  | _ => false
def primD : Prim → List D → Option Sl
  | .add, [.int i, .int j] => some (.val (.int (i + j)))
  | .add, [.str x, .str y] => if x.length + y.length ≤ 16777216 then some (.val (.str (x ++ y))) else none
  | .add, [.tup xs, .tup ys] => if xs.length + ys.length ≤ 16777216 then some (.val (.tup (xs ++ ys))) else none
  | .add, [.lst xs, .lst ys] => if xs.length + ys.length ≤ 16777216 then some (.own (xs ++ ys)) else none
  | .sub, [.int i, .int j] => some (.val (.int (i - j)))
  | .mul, [.int i, .int j] => if mulOk i j then some (.val (.int (i * j))) else none
  | .fdiv, [.int i, .int j] => if j ≠ 0 ∧ j.natAbs.log2 < 9000 then some (.val (.int (i.fdiv j))) else none
  | .mod, [.int i, .int j] => if j ≠ 0 then some (.val (.int (i.fmod j))) else none
  | .pow, [.int i, .int j] => if 0 ≤ j ∧ j ≤ 1000000 ∧ i.natAbs < 2 ^ 64 then some (.val (.int (i ^ j.toNat))) else none
  | .neg, [.int i] => some (.val (.int (-i)))
  | .eq, [d, e] => if okEq d && okEq e then some (.val (.bl (eqD d e))) else none
  | .ne, [d, e] => if okEq d && okEq e then some (.val (.bl (!eqD d e))) else none
  | .lt, [.int i, .int j] => some (.val (.bl (decide (i < j))))
  | .le, [.int i, .int j] => some (.val (.bl (decide (i ≤ j))))
  | .gt, [.int i, .int j] => some (.val (.bl (decide (j < i))))
  | .ge, [.int i, .int j] => some (.val (.bl (decide (j ≤ i))))
  | .iz, [d, .non] => some (.val (.bl (isNonD d)))
  | .izn, [d, .non] => some (.val (.bl (!isNonD d)))
  | .iz, [.bl a, .bl b] => some (.val (.bl (decide (a = b))))
  | .izn, [.bl a, .bl b] => some (.val (.bl (!decide (a = b))))
  | .isin, [d, .tup xs] => if flatD d && xs.all flatD then some (.val (.bl (xs.any fun e => eqD e d))) else none
  | .isin, [d, .lst xs] => if flatD d && xs.all flatD then some (.val (.bl (xs.any fun e => eqD e d))) else none
  | .notin, [d, .tup xs] => if flatD d && xs.all flatD then some (.val (.bl (!xs.any fun e => eqD e d))) else none
  | .notin, [d, .lst xs] => if flatD d && xs.all flatD then some (.val (.bl (!xs.any fun e => eqD e d))) else none
  | .ix, [.tup xs, .int i] => (atI xs i).map .val
  | .ix, [.lst xs, .int i] => (atI xs i).map .val
  | .abs, [.int i] => some (.val (.int (if i < 0 then -i else i)))
  | .len, [.tup xs] => some (.val (.int xs.length))
  | .len, [.lst xs] => some (.val (.int xs.length))
  | .int, [.int i] => some (.val (.int i))
  | .int, [.bl b] => some (.val (.int (if b then 1 else 0)))
  | .lst, [.tup xs] => some (.own xs)
  | .lst, [.lst xs] => some (.own xs)
  | .tup, [.tup xs] => some (.val (.tup xs))
  | .tup, [.lst xs] => some (.val (.tup xs))
  | .ist T, [d] => if T < 5 then some (.val (.bl (istD T d))) else none
  | .mn, [.int i, .int j] => some (.val (.int (if j < i then j else i)))
  | .mx, [.int i, .int j] => some (.val (.int (if i < j then j else i)))
  | .rgl, [.int a, .int b] => if rgOk a b then some (.own (rgD a b)) else none
  | .rgt, [.int a, .int b] => if rgOk a b then some (.val (.tup (rgD a b))) else none
  | _, _ => none

/-! ## expressions -/
inductive A where
  | pos (i : Nat) | dat (d : D)
def res (l : Loc) : A → Option D
  | .dat d => some d
  | .pos i => match l[i]? with
    | some (.val d) => some d
    | some (.own ds) => some (.lst ds)
    | _ => none
def resL (l : Loc) : List A → Option (List D)
  | [] => some []
  | a :: as => match res l a, resL l as with
    | some d, some ds => some (d :: ds)
    | _, _ => none
def bindT : Tg → D → Loc → Option Loc
  | .name i, d, l => if i < l.length then some (l.set i (.val d)) else none
  | .tup ts, .tup ds, l => bindTs ts ds l
  | .tup _, _, _ => none
where bindTs : List Tg → List D → Loc → Option Loc
  | [], [], l => some l
  | t :: ts, d :: ds, l => match bindT t d l with
    | some l1 => bindTs ts ds l1
    | none => none
  | _, _, _ => none
/-- the items of what is walked; ik 0: a list or a tuple, 1: range(n), 2: range(a, b), 3: zip, 4: enumerate -/
def items : Nat → List D → Option (List D)
  | 0, [.lst xs] => some xs
  | 0, [.tup xs] => some xs
  | 1, [.int n] => if rgOk 0 n then some (rgD 0 n) else none
  | 2, [.int a, .int b] => if rgOk a b then some (rgD a b) else none
  | _, _ => none
abbrev Gam := Nat → List Sl → R (Sl × List Sl)
/-- the arguments of a call, by the parameters; one of them may be a list that the callee changes -/
def argOf (l : Loc) (own : Bool) : A → Option Sl
  | .dat d => if own then none else some (.val d)
  | .pos i => match l[i]?, own with
    | some (.val d), false => some (.val d)
    | some (.own ds), false => some (.val (.lst ds))
    | some (.own ds), true => some (.own ds)
    | _, _ => none
def argsOf (l : Loc) (rf : Option Nat) (as : List A) : Nat → List Nat → Option (List Sl)
  | _, [] => some []
  | j, k :: ks => match as[k]?, argsOf l rf as (j + 1) ks with
    | some a, some r => (argOf l (rf == some j) a).map (· :: r)
    | _, _ => none
/-- the slots whose own lists are handed on by value -/
def peeks (l : Loc) (rf : Option Nat) (as : List A) : Nat → List Nat → List Nat
  | _, [] => []
  | j, k :: ks => (match as[k]? with
    | some (.pos i) => if rf == some j then [] else (match l[i]? with | some (.own _) => [i] | _ => [])
    | _ => []) ++ peeks l rf as (j + 1) ks
def refAt (rf : Option Nat) (as : List A) (pm : List Nat) : Option Nat := match rf with
  | none => none
  | some j => match pm[j]? with
    | some k => (match as[k]? with | some (.pos i) => some i | _ => none)
    | none => none
def demote (l : Loc) (i : Nat) : Loc := match l[i]? with
  | some (.own ds) => l.set i (.val (.lst ds))
  | _ => l
def demotes (l : Loc) : List Nat → Loc
  | [] => l
  | i :: is => demotes (demote l i) is
/-- the slots behind a call -/
def after (l : Loc) (rf : Option Nat) (as : List A) (pm : List Nat) (s : Sl) (outs : List Sl) : Option Loc :=
  match rf, refAt rf as pm with
  | none, _ => let ps := peeks l rf as 0 pm; some (if ps.isEmpty || nolst s.d then l else demotes l ps)
  | some j, some i => match outs[j]? with
    | some (.own ds) => let ps := peeks l rf as 0 pm
      if ps.contains i then none else
      let l1 := l.set i (.own ds)
      some (if ps.isEmpty || (nolst s.d && nolstL ds) then l1 else demotes l1 ps)
    | _ => none
  | some _, none => none
def wipeD (l : Loc) : List Nat → Loc
  | [] => l
  | v :: vs => (wipeD l vs).set v .un
def compL (bd : D → Loc → Option Loc) (ts : Loc → R (Bool × Loc)) (el : Loc → R (Sl × Loc)) (ws : List Nat) : List D → List D → Loc → R (List D × Loc)
  | [], acc, l => .ok (acc, l)
  | d :: ds, acc, l => match bd d (wipeD l ws) with
    | none => .bad
    | some l1 => (ts l1).bind fun r => if r.1 then
        (el r.2).bind fun r2 => if acc.length < 16777216 then compL bd ts el ws ds (acc ++ [r2.1.d]) (wipeD r2.2 ws) else .bad
      else compL bd ts el ws ds acc (wipeD r.2 ws)

mutual
def evX (Γ : Gam) : E → Loc → R (Sl × Loc)
  | .var i, l => match l[i]? with
    | some (.val d) => .ok (.val d, l)
    | some (.own ds) => .ok (.val (.lst ds), l.set i (.val (.lst ds)))
    | _ => .bad
  | .cst d, l => .ok (.val d, l)
  | .prim p es, l => (evAs Γ es l).bind fun r => match resL r.2 r.1 with
    | some ds => (match primD p ds with
      | some s => .ok (s, r.2)
      | none => .bad)
    | none => .bad
  | .pack t es, l => (evDs Γ es l).bind fun r => if r.1.length ≤ 16777216 then .ok (if t then .val (.tup r.1) else .own r.1, r.2) else .bad
  | .and a b, l => (evX Γ a l).bind fun r => match r.1 with
    | .val (.bl true) => evX Γ b r.2
    | .val (.bl false) => .ok (.val (.bl false), r.2)
    | _ => .bad
  | .or a b, l => (evX Γ a l).bind fun r => match r.1 with
    | .val (.bl false) => evX Γ b r.2
    | .val (.bl true) => .ok (.val (.bl true), r.2)
    | _ => .bad
  | .not a, l => (evX Γ a l).bind fun r => match r.1 with
    | .val (.bl b) => .ok (.val (.bl (!b)), r.2)
    | _ => .bad
  | .ite c a b, l => (evT Γ c l).bind fun r => if r.1 then evX Γ a r.2 else evX Γ b r.2
  | .chain p q a b c, l => (evX Γ a l).bind fun r => (evX Γ b r.2).bind fun r1 => match primD p [r.1.d, r1.1.d] with
    | some (.val (.bl true)) => (evX Γ c r1.2).bind fun r2 => (match primD q [r1.1.d, r2.1.d] with
      | some s => .ok (s, r2.2)
      | none => .bad)
    | some (.val (.bl false)) => .ok (.val (.bl false), r1.2)
    | _ => .bad
  | .call f rf pm es, l => (evAs Γ es l).bind fun r => match argsOf r.2 rf r.1 0 pm with
    | none => .bad
    | some args => match Γ f args with
      | .ok (s, outs) => (match after r.2 rf r.1 pm s outs with
        | some l1 => .ok (s, l1)
        | none => .bad)
      | .exc x _ => if rf.isNone then .exc x r.2 else .bad
      | .bad => .bad
  | .slc a b1 b2 es, l => (evAs Γ [a] l).bind fun r => (evIs Γ es r.2).bind fun r1 => match resL r1.2 r.1, partsD b1 b2 r1.1 with
    | some [d], some p => (match slD d p with
      | some s => .ok (s, r1.2)
      | none => .bad)
    | _, _ => .bad
  | .comp elt tg ik ies ifs ws, l => (evDs Γ ies l).bind fun r => match items ik r.1 with
    | none => .bad
    | some xs => match compL (bindT tg) (evTs Γ ifs) (evX Γ elt) ws xs [] (wipeD r.2 ws) with
      | .ok (ds, l1) => .ok (.own ds, l1)
      | _ => .bad
def evT (Γ : Gam) : E → Loc → R (Bool × Loc)
  | .and a b, l => (evT Γ a l).bind fun r => if r.1 then evT Γ b r.2 else .ok (false, r.2)
  | .or a b, l => (evT Γ a l).bind fun r => if r.1 then .ok (true, r.2) else evT Γ b r.2
  | .not a, l => (evT Γ a l).bind fun r => .ok (!r.1, r.2)
  | .var i, l => match res l (.pos i) with
    | some d => (match truth d with | some b => .ok (b, l) | none => .bad)
    | none => .bad
  | .cst d, l => match truth d with | some b => .ok (b, l) | none => .bad
  | .prim p es, l => (evAs Γ es l).bind fun r => match resL r.2 r.1 with
    | some ds => (match primD p ds with
      | some s => (match truth s.d with | some b => .ok (b, r.2) | none => .bad)
      | none => .bad)
    | none => .bad
  | .chain p q a b c, l => (evX Γ a l).bind fun r => (evX Γ b r.2).bind fun r1 => match primD p [r.1.d, r1.1.d] with
    | some (.val (.bl true)) => (evX Γ c r1.2).bind fun r2 => (match primD q [r1.1.d, r2.1.d] with
      | some (.val (.bl b)) => .ok (b, r2.2)
      | _ => .bad)
    | some (.val (.bl false)) => .ok (false, r1.2)
    | _ => .bad
  | .call f rf pm es, l => (evAs Γ es l).bind fun r => match argsOf r.2 rf r.1 0 pm with
    | none => .bad
    | some args => match Γ f args with
      | .ok (s, outs) => (match after r.2 rf r.1 pm s outs with
        | some l1 => (match truth s.d with | some b => .ok (b, l1) | none => .bad)
        | none => .bad)
      | .exc x _ => if rf.isNone then .exc x r.2 else .bad
      | .bad => .bad
  | _, _ => .bad
/-- arguments of an operation: slots are read when it is done -/
def evAs (Γ : Gam) : List E → Loc → R (List A × Loc)
  | [], l => .ok ([], l)
  | .var i :: es, l => match res l (.pos i) with
    | some _ => (evAs Γ es l).bind fun r => .ok (.pos i :: r.1, r.2)
    | none => .bad
  | e :: es, l => (evX Γ e l).bind fun r => (evAs Γ es r.2).bind fun r2 => .ok (.dat r.1.d :: r2.1, r2.2)
/-- items that are kept -/
def evDs (Γ : Gam) : List E → Loc → R (List D × Loc)
  | [], l => .ok ([], l)
  | e :: es, l => (evX Γ e l).bind fun r => (evDs Γ es r.2).bind fun r2 => .ok (r.1.d :: r2.1, r2.2)
/-- ints -/
def evIs (Γ : Gam) : List E → Loc → R (List Int × Loc)
  | [], l => .ok ([], l)
  | e :: es, l => (evX Γ e l).bind fun r => match r.1 with
    | .val (.int i) => (evIs Γ es r.2).bind fun r2 => .ok (i :: r2.1, r2.2)
    | _ => .bad
/-- the tests of a comprehension's clause -/
def evTs (Γ : Gam) : List E → Loc → R (Bool × Loc)
  | [], l => .ok (true, l)
  | [e], l => evT Γ e l
  | _, _ => .bad
end

/-! ## statements -/
inductive Fl where
  | nx | brk | cnt | ret (s : Sl)
def forL (bd : D → Loc → Option Loc) (body : Loc → R (Fl × Loc)) : List D → Loc → R (Fl × Loc)
  | [], l => .ok (.nx, l)
  | d :: ds, l => match bd d l with
    | none => .bad
    | some l1 => (body l1).bind fun r => match r.1 with
      | .nx => forL bd body ds r.2
      | .cnt => forL bd body ds r.2
      | .brk => .ok (.nx, r.2)
      | .ret s => .ok (.ret s, r.2)
def whileL (c : Loc → R (Bool × Loc)) (body : Loc → R (Fl × Loc)) : Nat → Loc → R (Fl × Loc)
  | 0, _ => .bad
  | n + 1, l => (c l).bind fun r => if r.1 then (body r.2).bind fun r2 => (match r2.1 with
      | .nx => whileL c body n r2.2
      | .cnt => whileL c body n r2.2
      | .brk => .ok (.nx, r2.2)
      | .ret s => .ok (.ret s, r2.2))
    else .ok (.nx, r.2)
def whileFuel : Nat := 16777216
def ownAt (l : Loc) (i : Nat) : Option (List D) := match l[i]? with
  | some (.own ds) => some ds
  | _ => none
/-- ints alone -/
def augD : Prim → D → D → Option Int
  | .add, .int i, .int j => some (i + j)
  | .sub, .int i, .int j => some (i - j)
  | .mul, .int i, .int j => if decide (-(2 ^ 64) < i ∧ i < 2 ^ 64) || decide (-(2 ^ 64) < j ∧ j < 2 ^ 64) then some (i * j) else none
  | _, _, _ => none
def setAll (l : Loc) : List Nat → List D → Option Loc
  | [], [] => some l
  | i :: is, d :: ds => if i < l.length then setAll (l.set i (.val d)) is ds else none
  | _, _ => none
mutual
def exS (Γ : Gam) : S → Loc → R (Fl × Loc)
  | .set i e, l => (evX Γ e l).bind fun r => if i < r.2.length then .ok (.nx, r.2.set i r.1) else .bad
  | .asg t e, l => (evX Γ e l).bind fun r => match bindT t r.1.d r.2 with
    | some l1 => .ok (.nx, l1)
    | none => .bad
  | .par is es, l => (evDs Γ es l).bind fun r => match setAll r.2 is r.1 with
    | some l1 => .ok (.nx, l1)
    | none => .bad
  | .aug i p e, l => match res l (.pos i) with
    | some _ => (evX Γ e l).bind fun r => (match res r.2 (.pos i) with
      | some d => (match augD p d r.1.d with
        | some x => if i < r.2.length then .ok (.nx, r.2.set i (.val (.int x))) else .bad
        | none => .bad)
      | none => .bad)
    | none => .bad
  | .setix i k e, l => (evX Γ e l).bind fun r => match ownAt r.2 i with
    | some _ => (evX Γ k r.2).bind fun r1 => (match ownAt r1.2 i, r1.1.d with
      | some ds, .int j => (match ixN ds.length j with
        | some m => .ok (.nx, r1.2.set i (.own (ds.set m r.1.d)))
        | none => .bad)
      | _, _ => .bad)
    | none => .bad
  | .augix i k p e, l => match ownAt l i with
    | some _ => (evX Γ k l).bind fun r => (match ownAt r.2 i, r.1.d with
      | some ds, .int j => (match atI ds j with
        | some d => (evX Γ e r.2).bind fun r1 => (match ownAt r1.2 i, augD p d r1.1.d with
          | some ds1, some x => (match ixN ds1.length j with
            | some m => .ok (.nx, r1.2.set i (.own (ds1.set m (.int x))))
            | none => .bad)
          | _, _ => .bad)
        | none => .bad)
      | _, _ => .bad)
    | none => .bad
  | .app i e, l => match ownAt l i with
    | some _ => (evX Γ e l).bind fun r => (match ownAt r.2 i with
      | some ds => if ds.length < 16777216 then .ok (.nx, r.2.set i (.own (ds ++ [r.1.d]))) else .bad
      | none => .bad)
    | none => .bad
  | .ex e, l => (evX Γ e l).bind fun r => .ok (.nx, r.2)
  | .ite c a b, l => (evT Γ c l).bind fun r => if r.1 then exB Γ a r.2 else exB Γ b r.2
  | .whl c b, l => whileL (evT Γ c) (exB Γ b) whileFuel l
  | .fer t ik ies b, l => (evDs Γ ies l).bind fun r => match items ik r.1 with
    | none => .bad
    | some xs => forL (bindT t) (exB Γ b) xs r.2
  | .ret e, l => (evX Γ e l).bind fun r => .ok (.ret r.1, r.2)
  | .retv i, l => match l[i]? with
    | some (.own ds) => .ok (.ret (.own ds), l.set i .un)
    | some (.val d) => .ok (.ret (.val d), l)
    | _ => .bad
  | .brk, l => .ok (.brk, l)
  | .cnt, l => .ok (.cnt, l)
  | .pas, l => .ok (.nx, l)
def exB (Γ : Gam) : List S → Loc → R (Fl × Loc)
  | [], l => .ok (.nx, l)
  | s :: ss, l => (exS Γ s l).bind fun r => match r.1 with
    | .nx => exB Γ ss r.2
    | f => .ok (f, r.2)
end

/-! ## functions -/
structure FD where
  np : Nat
  nl : Nat
  rf : Option Nat
  body : List S
def outsOf (l : Loc) (np : Nat) (rf : Option Nat) : Option (List Sl) := match rf with
  | none => some (List.replicate np .un)
  | some j => match l[j]? with
    | some (.own ds) => some ((List.replicate np Sl.un).set j (.own ds))
    | _ => none
def runF (Γ : Gam) (fd : FD) (args : List Sl) : R (Sl × List Sl) :=
  if args.length = fd.np then
    match exB Γ fd.body (args ++ List.replicate (fd.nl - fd.np) .un) with
    | .ok (.nx, l) => (match outsOf l fd.np fd.rf with | some o => .ok (.val .non, o) | none => .bad)
    | .ok (.ret s, l) => (match outsOf l fd.np fd.rf with | some o => .ok (s, o) | none => .bad)
    | .exc x l => .exc x l
    | _ => .bad
  else .bad
def callF (P : Nat → Option FD) : Nat → Gam
  | 0, _, _ => .bad
  | n + 1, f, args => match P f with
    | none => .bad
    | some fd => runF (callF P n) fd args
end DL

set_option Elab.async false
set_option linter.all false
set_option maxRecDepth 100000
namespace DL
open PySem PySem.Spec PyProof.Rows L2

/-! ## operations -/
/-- as Rep, the outermost list may stand anywhere -/
def Pk (K : PySem.W.Frag) (F : Ad) (H : Hp) (v : V) : D → Prop
  | .lst ds => ∃ a vs, v = .ref a ∧ SqL K H a vs ∧ RepL K F H vs ds
  | d => Rep K F H v d
def PkL (K : PySem.W.Frag) (F : Ad) (H : Hp) : List V → List D → Prop
  | [], [] => True
  | v :: vs, d :: ds => Pk K F H v d ∧ PkL K F H vs ds
  | _, _ => False
section
variable {K : PySem.W.Frag} {F : Ad} {H : Hp} {v : V}
theorem Rep.pk {d : D} (h : Rep K F H v d) : Pk K F H v d := by
  cases d with
  | lst ds =>
    rw [Rep] at h
    obtain ⟨a, vs, e, h1, h2⟩ := h
    exact ⟨a, vs, e, h1.sq, h2⟩
  | _ => exact h
theorem Pk.non' (h : Pk K F H v .non) : v = .non := by simpa [Pk, Rep] using h
theorem Pk.bl' {b : Bool} (h : Pk K F H v (.bl b)) : v = .bl b := by simpa [Pk, Rep] using h
theorem Pk.int' {i : Int} (h : Pk K F H v (.int i)) : v = .int i := by simpa [Pk, Rep] using h
theorem Pk.str' {x : Str} (h : Pk K F H v (.str x)) : v = .str x := by simpa [Pk, Rep] using h
theorem Pk.tup' {ds : List D} (h : Pk K F H v (.tup ds)) : ∃ a vs, v = .ref a ∧ SeqT K F H a vs ∧ RepL K F H vs ds := by
  have h' : Rep K F H v (.tup ds) := h
  rw [Rep] at h'; exact h'
theorem Rep.int (i : Int) : Rep K F H (.int i) (.int i) := by rw [Rep]
theorem Rep.bl (b : Bool) : Rep K F H (.bl b) (.bl b) := by rw [Rep]
theorem Rep.non : Rep K F H .non .non := by rw [Rep]
theorem Rep.str (x : Str) : Rep K F H (.str x) (.str x) := by rw [Rep]
theorem Rep.tup {a : Addr} {vs : List V} {ds : List D} (h : SeqT K F H a vs) (r : RepL K F H vs ds) : Rep K F H (.ref a) (.tup ds) := by rw [Rep]; exact ⟨a, vs, rfl, h, r⟩
mutual
theorem Rep.dp : ∀ (d : D) (v : V), Rep K F H v d → Dp K H v (toPy d)
  | .non, v, h => by rw [Rep] at h; subst h; rw [toPy]; exact .non
  | .bl b, v, h => by rw [Rep] at h; subst h; rw [toPy]; exact .bl b
  | .int i, v, h => by rw [Rep] at h; subst h; rw [toPy]; exact .int i
  | .str x, v, h => by rw [Rep] at h; subst h; rw [toPy]; exact .str x
  | .tup ds, v, h => by
    rw [Rep] at h
    obtain ⟨a, vs, rfl, h1, h2⟩ := h
    rw [toPy]; exact .tup h1.sq (RepL.dp ds vs h2)
  | .lst ds, v, h => by
    rw [Rep] at h
    obtain ⟨a, vs, rfl, h1, h2⟩ := h
    rw [toPy]; exact .lst h1.sq (RepL.dp ds vs h2)
theorem RepL.dp : ∀ (ds : List D) (vs : List V), RepL K F H vs ds → DpAll K H vs (toPyL ds)
  | [], vs, h => by rw [RepL] at h; subst h; rw [toPyL]; exact .nil
  | d :: ds, vs, h => by
    rw [RepL] at h
    obtain ⟨v, r, rfl, h1, h2⟩ := h
    rw [toPyL]; exact .cons (Rep.dp d v h1) (RepL.dp ds r h2)
end
theorem Pk.dp {d : D} (h : Pk K F H v d) : Dp K H v (toPy d) := by
  cases d with
  | lst ds =>
    obtain ⟨a, vs, rfl, h1, h2⟩ := h
    rw [toPy]; exact .lst h1 (RepL.dp ds vs h2)
  | non => exact Rep.dp (F := F) _ _ h
  | bl _ => exact Rep.dp (F := F) _ _ h
  | int _ => exact Rep.dp (F := F) _ _ h
  | str _ => exact Rep.dp (F := F) _ _ h
  | tup _ => exact Rep.dp (F := F) _ _ h
def tyN : D → String
  | .non => "NoneType" | .bl _ => "bool" | .int _ => "int" | .str _ => "str" | .tup _ => "tuple" | .lst _ => "list"
theorem Pk.ty {d : D} (h : Pk K F H v d) : TyX K H v (.type (tyN d)) := by
  cases d with
  | non => rw [h.non']; exact .base .non
  | bl b => rw [h.bl']; exact .base (.bl b)
  | int i => rw [h.int']; exact .base (.int i)
  | str x => rw [h.str']; exact .base (.str x)
  | tup ds =>
    obtain ⟨a, vs, rfl, h1, h2⟩ := h.tup'
    rcases h1 with ⟨h1 | ⟨o, h1⟩, _⟩ | ⟨o, its, n, h1, h3, _⟩
    · exact .base (.tup h1)
    · exact .fTuple h1
    · exact .kTuple h1 h3
  | lst ds =>
    obtain ⟨a, vs, rfl, h1, h2⟩ := h
    rcases h1 with (h1 | ⟨o, h1⟩) | ⟨o, its, n, h1, h3, _⟩
    · exact .base (.lst h1)
    · exact .base (.frz h1)
    · exact .kList h1 h3
end

/-- what comes of an operation: at most one new object -/
def FinP (K : PySem.W.Frag) (F : Ad) (H : Hp) (Q : VK) : Sl → Prop
  | .un => False
  | .val r => ∀ v H', (H' = H ∨ ∃ p o, H p = none ∧ H' = upd H p o) → Rep K F H' v r → Q v H'
  | .own ds => ∀ p vs, H p = none → RepL K F H vs ds → Q (.ref p) (upd H p (.lst vs))
abbrev Trk (F : Ad) (H : Hp) : Prop := ∀ a, F a → H a ≠ none
def RB (K : PySem.W.Frag) (p : Prim) : R2 := fun x y H Q => ∃ (F : Ad) (d e : D) (s : Sl), Trk F H ∧ Pk K F H x d ∧ Pk K F H y e ∧ primD p [d, e] = some s ∧ FinP K F H Q s
def RN (K : PySem.W.Frag) (p : Prim) : List V → Hp → VK → Prop := fun xs H Q => ∃ (F : Ad) (ds : List D) (s : Sl), Trk F H ∧ PkL K F H xs ds ∧ primD p ds = some s ∧ FinP K F H Q s
section
variable {K : PySem.W.Frag} {F : Ad} {H : Hp} {Q : VK}
theorem FinP.val0 {r : D} {v : V} (h : FinP K F H Q (.val r)) (rv : Rep K F H v r) : Q v H := h v H (.inl rfl) rv
theorem rep_new {d : D} {v : V} {p : Addr} {o : HO} (h : Rep K F H v d) (n : H p = none) : Rep K F (upd H p o) v d := h.move (fun b u _ e => by rw [upd_ne (ne_of_none e n)]; exact e) (fun b z => .inl z)
theorem repL_new {ds : List D} {vs : List V} {p : Addr} {o : HO} (h : RepL K F H vs ds) (n : H p = none) : RepL K F (upd H p o) vs ds := h.move (fun b u _ e => by rw [upd_ne (ne_of_none e n)]; exact e) (fun b z => .inl z)
/-- a new tuple -/
theorem FinP.tup {ds : List D} {vs : List V} (t : Trk F H) (h : FinP K F H Q (.val (.tup ds))) (r : RepL K F H vs ds) : ∀ p, H p = none → Q (.ref p) (upd H p (.tup vs)) := fun p n =>
  h _ _ (.inr ⟨p, _, n, rfl⟩) (Rep.tup (.inl ⟨.inl upd_same, fun z => t p z n⟩) (repL_new r n))
end

theorem nat_sl : sizeLine = 16777216 := sizeLine_eq
section
variable {X : Cx}
theorem op_fdivA : OpR X (binaryOp .FloorDiv) (rI (fun _ j => j ≠ 0 ∧ j.natAbs.log2 < 9000) fun i j => .int (i.fdiv j)) := opI fun _ _ _ _ _ _ _ hc q => floordiv_int hc.1 q (.inl (PyProof.noPylong_of_log2 hc.2))
theorem op_mulA : OpR X (binaryOp .Mult) (rI (fun i j => mulOk i j = true) fun i j => .int (i * j)) := opI fun i j _ _ _ _ _ hc q => by
  unfold mulOk at hc
  simp only [Bool.or_eq_true, decide_eq_true_eq] at hc
  rcases hc with hc | hc
  · exact mul_int q (CMul.ok (i := i) (j := j) hc)
  · exact mul_int q (CMulW.ok (i := i) (j := j) hc)
def rCatL (K : PySem.W.Frag) : R2 := fun x y H Q => ∃ l b xs zs, x = .ref l ∧ y = .ref b ∧ SqL K H l xs ∧ SqL K H b zs ∧ xs.length + zs.length ≤ sizeLine ∧ ∀ p, H p = none → Q (.ref p) (upd H p (.lst (xs ++ zs)))
open PySem.P in
theorem op_catL : OpR X (binaryOp .Add) (rCatL X.K) := by
  intro pins s σ H x y v u Q I rx ry h
  obtain ⟨l, b, xs, zs, rfl, rfl, hH, hB, hz, q⟩ := h
  cases rx
  cases ry
  obtain ⟨its, r, ⟨⟨cls, dd, data, sl⟩, n, ho, hc, hd0, hd⟩, _⟩ := I.list hH
  obtain ⟨its2, r2, ⟨⟨cls2, dd2, data2, sl2⟩, n2, ho2, hc2, hd02, hd2⟩, _⟩ := I.list hB
  have hl := r.length
  have hl2 := r2.length
  simp only at hc hd hc2 hd2
  subst hc hd hc2 hd2
  have ea : its.toArray ++ its2.toArray = (its ++ its2).toArray := by simp
  refine concat_meets ⟨_, ho, rfl⟩ ⟨_, ho2, rfl⟩ noFill_list_add seq_list_add PySem.F.slot_list_add PySem.F.entry_list_add (PySem.F.args_list_add_2 _ _) (list_addW l b its.toArray its2.toArray n n2 dd dd2 sl sl2 (by rw [List.size_toArray, List.size_toArray]; omega)) ⟨ho, ho2, ?_⟩
  rw [ea]
  exact ⟨.ref _, _, I.lnew (t' := s.toks) (r.append r2) (by rw [List.length_append]; omega), rfl, q _ I.fresh⟩
end
end DL

set_option Elab.async false
set_option linter.all false
set_option maxRecDepth 100000
set_option maxHeartbeats 2000000
namespace DL
open PySem PySem.Spec PyProof.Rows L2
section
variable {X : Cx}
theorem RepL.nil_iff {K : PySem.W.Frag} {F : Ad} {H : Hp} {vs : List V} {ds : List D} (h : RepL K F H vs ds) : vs = [] ↔ ds = [] := by
  have := h.length
  constructor
  · intro e; subst e; cases ds with
    | nil => rfl
    | cons _ _ => simp at this
  · intro e; subst e; cases vs with
    | nil => rfl
    | cons _ _ => simp at this
theorem opp_add : OpR X (binaryOp .Add) (RB X.K .add) := by
  intro pins s σ H x y v u Q I rx ry h
  obtain ⟨F, d, e, z, tr, hd, he, hp, q⟩ := h
  cases d <;> cases e <;> simp only [primD] at hp <;> first | cases hp | skip
  · exact op_add pins s σ H x y v u Q I rx ry ⟨_, _, hd.int', he.int', q.val0 (Rep.int _)⟩
  · split at hp <;> cases hp
    exact op_add_str pins s σ H x y v u Q I rx ry ⟨_, _, hd.str', he.str', by rw [nat_sl]; assumption, q.val0 (Rep.str _)⟩
  · split at hp <;> cases hp
    rename_i hz
    obtain ⟨a, vs, rfl, h1, h2⟩ := hd.tup'
    obtain ⟨b, ws, rfl, h3, h4⟩ := he.tup'
    refine op_catA pins s σ H _ _ v u Q I rx ry ⟨a, b, vs, ws, rfl, rfl, h1.sq, h3.sq, by rw [nat_sl, h2.length, h4.length]; exact hz, fun e => ?_, fun _ e => ?_, fun _ _ => q.tup tr (h2.append h4)⟩
    · rw [h2.nil_iff] at e; subst e
      exact q.val0 (Rep.tup h3 (by simpa using h4))
    · rw [h4.nil_iff] at e; subst e
      exact q.val0 (Rep.tup h1 (by simpa using h2))
  · split at hp <;> cases hp
    rename_i hz
    obtain ⟨a, vs, rfl, h1, h2⟩ := hd
    obtain ⟨b, ws, rfl, h3, h4⟩ := he
    exact op_catL pins s σ H _ _ v u Q I rx ry ⟨a, b, vs, ws, rfl, rfl, h1, h3, by rw [nat_sl, h2.length, h4.length]; exact hz, fun p n => q p _ n (h2.append h4)⟩
theorem opp_sub : OpR X (binaryOp .Sub) (RB X.K .sub) := by
  intro pins s σ H x y v u Q I rx ry h
  obtain ⟨F, d, e, z, tr, hd, he, hp, q⟩ := h
  cases d <;> cases e <;> simp only [primD] at hp <;> first | cases hp | skip
  exact op_sub pins s σ H x y v u Q I rx ry ⟨_, _, hd.int', he.int', q.val0 (Rep.int _)⟩
theorem opp_mul : OpR X (binaryOp .Mult) (RB X.K .mul) := by
  intro pins s σ H x y v u Q I rx ry h
  obtain ⟨F, d, e, z, tr, hd, he, hp, q⟩ := h
  cases d <;> cases e <;> simp only [primD] at hp <;> first | cases hp | skip
  split at hp <;> cases hp
  exact op_mulA pins s σ H x y v u Q I rx ry ⟨_, _, hd.int', he.int', by assumption, q.val0 (Rep.int _)⟩
theorem opp_fdiv : OpR X (binaryOp .FloorDiv) (RB X.K .fdiv) := by
  intro pins s σ H x y v u Q I rx ry h
  obtain ⟨F, d, e, z, tr, hd, he, hp, q⟩ := h
  cases d <;> cases e <;> simp only [primD] at hp <;> first | cases hp | skip
  split at hp <;> cases hp
  exact op_fdivA pins s σ H x y v u Q I rx ry ⟨_, _, hd.int', he.int', by assumption, q.val0 (Rep.int _)⟩
theorem opp_mod : OpR X (binaryOp .Mod) (RB X.K .mod) := by
  intro pins s σ H x y v u Q I rx ry h
  obtain ⟨F, d, e, z, tr, hd, he, hp, q⟩ := h
  cases d <;> cases e <;> simp only [primD] at hp <;> first | cases hp | skip
  split at hp <;> cases hp
  exact op_modN pins s σ H x y v u Q I rx ry ⟨_, _, hd.int', he.int', by assumption, q.val0 (Rep.int _)⟩
theorem opp_pow : OpR X (binaryOp .Pow) (RB X.K .pow) := by
  intro pins s σ H x y v u Q I rx ry h
  obtain ⟨F, d, e, z, tr, hd, he, hp, q⟩ := h
  cases d <;> cases e <;> simp only [primD] at hp <;> first | cases hp | skip
  split at hp <;> cases hp
  exact op_pow pins s σ H x y v u Q I rx ry ⟨_, _, hd.int', he.int', by assumption, q.val0 (Rep.int _)⟩
theorem opp_eq (hu : X.A.units + 64 < cLine) : OpR X (compareOp .Eq) (RB X.K .eq) := by
  intro pins s σ H x y v u Q I rx ry h
  obtain ⟨F, d, e, z, tr, hd, he, hp, q⟩ := h
  simp only [primD] at hp
  split at hp <;> cases hp
  rename_i hz
  simp only [Bool.and_eq_true] at hz
  exact op_eqD hu pins s σ H x y v u Q I rx ry ⟨_, _, hd.dp, he.dp, hz.1, hz.2, q.val0 (Rep.bl _)⟩
theorem opp_ne (hu : X.A.units + 64 < cLine) : OpR X (compareOp .NotEq) (RB X.K .ne) := by
  intro pins s σ H x y v u Q I rx ry h
  obtain ⟨F, d, e, z, tr, hd, he, hp, q⟩ := h
  simp only [primD] at hp
  split at hp <;> cases hp
  rename_i hz
  simp only [Bool.and_eq_true] at hz
  exact op_neD hu pins s σ H x y v u Q I rx ry ⟨_, _, hd.dp, he.dp, hz.1, hz.2, q.val0 (Rep.bl _)⟩
theorem opp_lt : OpR X (compareOp .Lt) (RB X.K .lt) := by
  intro pins s σ H x y v u Q I rx ry h
  obtain ⟨F, d, e, z, tr, hd, he, hp, q⟩ := h
  cases d <;> cases e <;> simp only [primD] at hp <;> first | cases hp | skip
  exact op_lt pins s σ H x y v u Q I rx ry ⟨_, _, hd.int', he.int', q.val0 (Rep.bl _)⟩
theorem opp_le : OpR X (compareOp .LtE) (RB X.K .le) := by
  intro pins s σ H x y v u Q I rx ry h
  obtain ⟨F, d, e, z, tr, hd, he, hp, q⟩ := h
  cases d <;> cases e <;> simp only [primD] at hp <;> first | cases hp | skip
  exact op_le pins s σ H x y v u Q I rx ry ⟨_, _, hd.int', he.int', q.val0 (Rep.bl _)⟩
theorem opp_gt : OpR X (compareOp .Gt) (RB X.K .gt) := by
  intro pins s σ H x y v u Q I rx ry h
  obtain ⟨F, d, e, z, tr, hd, he, hp, q⟩ := h
  cases d <;> cases e <;> simp only [primD] at hp <;> first | cases hp | skip
  exact op_gt pins s σ H x y v u Q I rx ry ⟨_, _, hd.int', he.int', q.val0 (Rep.bl _)⟩
theorem opp_ge : OpR X (compareOp .GtE) (RB X.K .ge) := by
  intro pins s σ H x y v u Q I rx ry h
  obtain ⟨F, d, e, z, tr, hd, he, hp, q⟩ := h
  cases d <;> cases e <;> simp only [primD] at hp <;> first | cases hp | skip
  exact op_ge pins s σ H x y v u Q I rx ry ⟨_, _, hd.int', he.int', q.val0 (Rep.bl _)⟩
theorem Pk.is_non {K : PySem.W.Frag} {F : Ad} {H : Hp} {v : V} {d : D} (h : Pk K F H v d) : decide (v = .non) = isNonD d := by
  cases d with
  | non => rw [h.non']; rfl
  | bl b => rw [h.bl']; rfl
  | int i => rw [h.int']; rfl
  | str x => rw [h.str']; rfl
  | tup ds => obtain ⟨a, vs, rfl, _⟩ := h.tup'; rfl
  | lst ds => obtain ⟨a, vs, rfl, _⟩ := h; rfl
theorem opp_is : OpR X (compareOp .Is) (RB X.K .iz) := by
  intro pins s σ H x y v u Q I rx ry h
  obtain ⟨F, d, e, z, tr, hd, he, hp, q⟩ := h
  cases e with
  | non =>
    simp only [primD] at hp
    cases hp
    refine op_isN pins s σ H x y v u Q I rx ry ⟨he.non', ?_⟩
    rw [hd.is_non]
    exact q.val0 (Rep.bl _)
  | bl b =>
    cases d <;> simp only [primD] at hp <;> first | cases hp | skip
    exact op_isBl pins s σ H x y v u Q I rx ry ⟨_, b, hd.bl', he.bl', q.val0 (Rep.bl _)⟩
  | _ => cases d <;> simp [primD] at hp
theorem opp_isnot : OpR X (compareOp .IsNot) (RB X.K .izn) := by
  intro pins s σ H x y v u Q I rx ry h
  obtain ⟨F, d, e, z, tr, hd, he, hp, q⟩ := h
  cases e with
  | non =>
    simp only [primD] at hp
    cases hp
    refine op_notN pins s σ H x y v u Q I rx ry ⟨he.non', ?_⟩
    rw [hd.is_non]
    exact q.val0 (Rep.bl _)
  | bl b =>
    cases d <;> simp only [primD] at hp <;> first | cases hp | skip
    exact op_notBl pins s σ H x y v u Q I rx ry ⟨_, b, hd.bl', he.bl', q.val0 (Rep.bl _)⟩
  | _ => cases d <;> simp [primD] at hp
def dv : D → V
  | .bl b => .bl b | .int i => .int i | .str x => .str x | _ => .non
theorem Pk.dv {K : PySem.W.Frag} {F : Ad} {H : Hp} {v : V} {d : D} (h : Pk K F H v d) (f : flatD d = true) : v = dv d := by
  cases d with
  | non => exact h.non'
  | bl b => exact h.bl'
  | int i => exact h.int'
  | str x => exact h.str'
  | tup ds => cases f
  | lst ds => cases f
theorem Pk.flat {K : PySem.W.Frag} {F : Ad} {H : Hp} {v : V} {d : D} (h : Pk K F H v d) (f : flatD d = true) : flatV v = true := by
  rw [h.dv f]
  cases d <;> first | exact absurd f Bool.false_ne_true | rfl
theorem Rep.eqv {K : PySem.W.Frag} {F : Ad} {H : Hp} {v w : V} {d e : D} (h : Pk K F H v d) (g : Pk K F H w e) (f : flatD d = true) (f' : flatD e = true) : eqV w v = eqD e d := by
  rw [h.dv f, g.dv f']
  cases d <;> cases e <;> first | exact absurd f Bool.false_ne_true | exact absurd f' Bool.false_ne_true | rfl
theorem RepL.flat {K : PySem.W.Frag} {F : Ad} {H : Hp} : ∀ {ds : List D} {vs : List V}, RepL K F H vs ds → ds.all flatD = true → vs.all flatV = true
  | [], vs, h, _ => by rw [RepL] at h; subst h; rfl
  | d :: ds, vs, h, f => by
    rw [RepL] at h
    obtain ⟨v, r, rfl, h1, h2⟩ := h
    simp only [List.all_cons, Bool.and_eq_true] at f ⊢
    exact ⟨Pk.flat h1.pk f.1, RepL.flat h2 f.2⟩
theorem RepL.inv {K : PySem.W.Frag} {F : Ad} {H : Hp} {v : V} {d : D} (h : Pk K F H v d) (f : flatD d = true) : ∀ {ds : List D} {vs : List V}, RepL K F H vs ds → ds.all flatD = true → inV v vs = ds.any fun e => eqD e d
  | [], vs, h', _ => by rw [RepL] at h'; subst h'; rfl
  | e :: ds, vs, h', g => by
    rw [RepL] at h'
    obtain ⟨w, r, rfl, h1, h2⟩ := h'
    simp only [List.all_cons, Bool.and_eq_true] at g
    have ih := RepL.inv h f h2 g.2
    unfold inV at ih ⊢
    rw [List.any_cons, List.any_cons, ih, Rep.eqv h h1.pk f g.1]
theorem opp_in : OpR X (compareOp .In) (RB X.K .isin) := by
  intro pins s σ H x y v u Q I rx ry h
  obtain ⟨F, d, e, z, tr, hd, he, hp, q⟩ := h
  cases e <;> simp only [primD] at hp <;> first | cases hp | skip
  all_goals
    split at hp <;> cases hp
    rename_i hz
    simp only [Bool.and_eq_true] at hz
  · obtain ⟨a, vs, rfl, h1, h2⟩ := he.tup'
    refine op_in_seq pins s σ H x _ v u Q I rx ry ⟨a, vs, rfl, .inr h1.sq, Pk.flat hd hz.1, h2.flat hz.2, ?_⟩
    rw [if_neg Bool.false_ne_true, RepL.inv hd hz.1 h2 hz.2]
    exact q.val0 (Rep.bl _)
  · obtain ⟨a, vs, rfl, h1, h2⟩ := he
    refine op_in_seq pins s σ H x _ v u Q I rx ry ⟨a, vs, rfl, .inl h1, Pk.flat hd hz.1, h2.flat hz.2, ?_⟩
    rw [if_neg Bool.false_ne_true, RepL.inv hd hz.1 h2 hz.2]
    exact q.val0 (Rep.bl _)
theorem opp_notin : OpR X (compareOp .NotIn) (RB X.K .notin) := by
  intro pins s σ H x y v u Q I rx ry h
  obtain ⟨F, d, e, z, tr, hd, he, hp, q⟩ := h
  cases e <;> simp only [primD] at hp <;> first | cases hp | skip
  all_goals
    split at hp <;> cases hp
    rename_i hz
    simp only [Bool.and_eq_true] at hz
  · obtain ⟨a, vs, rfl, h1, h2⟩ := he.tup'
    refine op_notIn_seq pins s σ H x _ v u Q I rx ry ⟨a, vs, rfl, .inr h1.sq, Pk.flat hd hz.1, h2.flat hz.2, ?_⟩
    rw [if_pos rfl, RepL.inv hd hz.1 h2 hz.2]
    exact q.val0 (Rep.bl _)
  · obtain ⟨a, vs, rfl, h1, h2⟩ := he
    refine op_notIn_seq pins s σ H x _ v u Q I rx ry ⟨a, vs, rfl, .inl h1, Pk.flat hd hz.1, h2.flat hz.2, ?_⟩
    rw [if_pos rfl, RepL.inv hd hz.1 h2 hz.2]
    exact q.val0 (Rep.bl _)
theorem opp_neg : UnR X (unaryOp .USub) (fun x H Q => ∃ (F : Ad) (d : D) (s : Sl), Trk F H ∧ Pk X.K F H x d ∧ primD .neg [d] = some s ∧ FinP X.K F H Q s) := by
  intro pins s σ H x v Q I rx h
  obtain ⟨F, d, z, tr, hd, hp, q⟩ := h
  cases d <;> simp only [primD] at hp <;> first | cases hp | skip
  exact un_neg pins s σ H x v Q I rx ⟨_, hd.int', q.val0 (Rep.int _)⟩
theorem atI_map {ds : List D} {vs : List V} {K : PySem.W.Frag} {F : Ad} {H : Hp} {i : Int} {d : D} (r : RepL K F H vs ds) (h : atI ds i = some d) : ∃ v, atI vs i = some v ∧ Rep K F H v d := by
  unfold atI at h ⊢
  rw [r.length]
  cases e : ixN ds.length i with
  | none => rw [e] at h; cases h
  | some j =>
    rw [e] at h
    exact r.get' h
theorem ixp : IxR X (RB X.K .ix) := by
  intro value slice pins s σ H x y v u Q I rx ry h hs
  obtain ⟨F, d, e, z, tr, hd, he, hp, q⟩ := h
  cases d <;> cases e <;> simp only [primD] at hp <;> first | cases hp | skip
  all_goals
    simp only [Option.map_eq_some_iff] at hp
    obtain ⟨c, hc, rfl⟩ := hp
  · obtain ⟨a, vs, rfl, h1, h2⟩ := hd.tup'
    obtain ⟨w, hw, r⟩ := atI_map h2 hc
    exact ix_tup value slice pins s σ H _ y v u Q I rx ry ⟨a, vs, _, w, rfl, he.int', h1.sq, hw, q.val0 r⟩ hs
  · obtain ⟨a, vs, rfl, h1, h2⟩ := hd
    obtain ⟨w, hw, r⟩ := atI_map h2 hc
    exact ix_list value slice pins s σ H _ y v u Q I rx ry ⟨a, vs, _, w, rfl, he.int', h1, hw, q.val0 r⟩ hs
/-- slices -/
theorem RepL.cut {ds : List D} {vs : List V} {K : PySem.W.Frag} {F : Ad} {H : Hp} (r : RepL K F H vs ds) (lo hi : Option Int) : RepL K F H (cutV vs lo hi) (cutD ds lo hi) := by
  unfold cutV cutD
  rw [r.length]
  exact (r.drop _).take _
def RSl (K : PySem.W.Frag) : V → Option Int → Option Int → Hp → VK → Prop := fun x lo hi H Q => ∃ (F : Ad) (d : D) (s : Sl), Trk F H ∧ Pk K F H x d ∧ slD d (lo, hi) = some s ∧ FinP K F H Q s
theorem slp : SlR X (RSl X.K) := by
  intro pins s σ H x v vl vu lo hi sl Q I rx hs pl pu h
  obtain ⟨F, d, z, tr, hd, hz, q⟩ := h
  unfold slD at hz
  split at hz <;> cases hz
  · obtain ⟨a, vs, rfl, h1, h2⟩ := hd.tup'
    refine sl_tupA pins s σ H _ v vl vu lo hi sl Q I rx hs pl pu ⟨a, vs, rfl, h1.sq, fun e => ?_, fun _ => q.tup tr (h2.cut lo hi)⟩
    have r := h2.cut lo hi
    have ec : cutV vs lo hi = vs := by
      unfold cutV
      rw [e.1, e.2]
      simp
    rw [ec] at r
    exact q.val0 (Rep.tup h1 r)
  · obtain ⟨a, vs, rfl, h1, h2⟩ := hd
    exact sl_list pins s σ H _ v vl vu lo hi sl Q I rx hs pl pu ⟨a, vs, rfl, h1, fun p n => q p _ n (h2.cut lo hi)⟩
end
end DL

set_option Elab.async false
set_option linter.all false
set_option maxRecDepth 100000
set_option maxHeartbeats 2000000
namespace DL
open PySem PySem.Spec PyProof.Rows L2

/-! ## what is wanted behind a reading -/
abbrev XI := Exn → Value → Option Addr → Hp → Prop
structure Cf where
  K : PySem.W.Frag
  Xs : Ad
  W : WX
  xi : XI
  σ : L2.St
section
variable {α β : Type}
def Po (C : Cf) (M : Ad) (H : Hp) (post : α → Loc → Ad → Hp → Prop) : R (α × Loc) → Prop
  | .ok r => ∀ M' H', Step M H M' H' → RepLoc C.K C.Xs M' C.σ H' r.2 → post r.1 r.2 M' H'
  | .exc x l' => ∀ cls d M' H', Step M H M' H' → RepLoc C.K C.Xs M' C.σ H' l' → C.xi x cls d H' → C.W cls d C.σ H'
  | .bad => False
variable {C : Cf} {M M' : Ad} {H H' : Hp} {post post' : α → Loc → Ad → Hp → Prop} {r : R (α × Loc)}
theorem Po.shift (h : Po C M H post r) (s : Step M H M' H') : Po C M' H' post r := by
  cases r with
  | ok a => exact fun M2 H2 s2 => h M2 H2 (s.trans s2)
  | exc x l => exact fun cls d M2 H2 s2 => h cls d M2 H2 (s.trans s2)
  | bad => exact h
theorem Po.bind {f : α × Loc → R (β × Loc)} {post : β → Loc → Ad → Hp → Prop} (h : Po C M H post (r.bind f)) : Po C M H (fun a l' M' H' => Po C M' H' post (f (a, l'))) r := by
  cases r with
  | ok a => exact fun M2 H2 s2 rl => Po.shift (show Po C M H post (f a) from h) s2
  | exc x l => exact h
  | bad => exact h
theorem Po.imp (h : Po C M H post r) (g : ∀ a l M' H', Step M H M' H' → RepLoc C.K C.Xs M' C.σ H' l → post a l M' H' → post' a l M' H') : Po C M H post' r := by
  cases r with
  | ok a => exact fun M2 H2 s2 rl => g _ _ _ _ s2 rl (h M2 H2 s2 rl)
  | exc x l => exact h
  | bad => exact h
end

/-- an item of an argument list -/
def RepA (C : Cf) (M : Ad) (H : Hp) (v : V) : A → Prop
  | .pos i => C.σ[i]? = some (some v)
  | .dat d => Rep C.K (Fb C.Xs M) H v d
def RepAs (C : Cf) (M : Ad) (H : Hp) : List V → List A → Prop
  | [], [] => True
  | v :: vs, a :: as => RepA C M H v a ∧ RepAs C M H vs as
  | _, _ => False
theorem res_pos (l : Loc) (i : Nat) : res l (.pos i) = match l[i]? with
    | some (.val d) => some d
    | some (.own ds) => some (.lst ds)
    | _ => none := rfl
theorem primD_un {p : Prim} {ds : List D} : primD p ds ≠ some .un := by
  intro h
  unfold primD at h
  split at h <;> (try split at h) <;> first | cases h | (rw [Option.map_eq_some_iff] at h; obtain ⟨_, _, e⟩ := h; cases e)
section
variable {C : Cf} {M M' : Ad} {H H' : Hp} {l : Loc} {v : V}
theorem RepA.step {a : A} (s : Step M H M' H') (h : RepA C M H v a) : RepA C M' H' v a := by
  cases a with
  | pos i => exact h
  | dat d => exact Rep.step s h
theorem RepAs.step (s : Step M H M' H') : ∀ {as : List A} {vs : List V}, RepAs C M H vs as → RepAs C M' H' vs as
  | [], [], _ => trivial
  | a :: as, v :: vs, h => ⟨h.1.step s, RepAs.step s h.2⟩
  | [], _ :: _, h => h.elim
  | _ :: _, [], h => h.elim
theorem RepAs.length : ∀ {as : List A} {vs : List V}, RepAs C M H vs as → vs.length = as.length
  | [], [], _ => rfl
  | a :: as, v :: vs, h => by simp [RepAs.length h.2]
  | [], _ :: _, h => h.elim
  | _ :: _, [], h => h.elim
theorem RepA.pk {a : A} {d : D} (r : RepLoc C.K C.Xs M C.σ H l) (h : RepA C M H v a) (e : res l a = some d) : Pk C.K (Fb C.Xs M) H v d := by
  cases a with
  | dat d' => cases e; exact Rep.pk h
  | pos i =>
    rw [res_pos] at e
    split at e
    · rename_i d' e1
      cases e
      obtain ⟨w, h1, h2⟩ := r.val i _ e1
      have : v = w := by
        have h' : C.σ[i]? = some (some v) := h
        rw [h1] at h'
        simpa using h'.symm
      subst this
      exact h2.pk
    · rename_i ds e1
      cases e
      obtain ⟨a, vs, h1, h2, h3, h4⟩ := r.own i _ e1
      have : v = .ref a := by
        have h' : C.σ[i]? = some (some v) := h
        rw [h1] at h'
        simpa using h'.symm
      subst this
      exact ⟨a, vs, rfl, .inl (.inl h3), h4⟩
    · cases e
theorem RepAs.pk (r : RepLoc C.K C.Xs M C.σ H l) : ∀ {as : List A} {vs : List V} {ds : List D}, RepAs C M H vs as → resL l as = some ds → PkL C.K (Fb C.Xs M) H vs ds
  | [], [], ds, _, e => by cases e; trivial
  | a :: as, v :: vs, ds, h, e => by
    unfold resL at e
    cases e1 : res l a with
    | none => rw [e1] at e; cases e
    | some d =>
      cases e2 : resL l as with
      | none => rw [e1, e2] at e; cases e
      | some ds' =>
        rw [e1, e2] at e
        cases e
        exact ⟨h.1.pk r e1, RepAs.pk r h.2 e2⟩
  | [], _ :: _, _, h, _ => h.elim
  | _ :: _, [], _, h, _ => h.elim
theorem RepLoc.tr (r : RepLoc C.K C.Xs M C.σ H l) : Trk (Fb C.Xs M) H := fun a z e => by
  obtain ⟨vs, q⟩ := r.trk a z
  rw [e] at q; cases q
/-- an operation's end -/
theorem fin_of {s : Sl} {Q : VK} (r : RepLoc C.K C.Xs M C.σ H l) (h : Po C M H (fun s l' M' H' => ∀ v, RepR C.K C.Xs M' C.σ l' H' v s → Q v H') (.ok (s, l))) (hs : s ≠ .un) : FinP C.K (Fb C.Xs M) H Q s := by
  cases s with
  | un => exact absurd rfl hs
  | val d =>
    intro v H' hH rv
    rcases hH with rfl | ⟨p, o, n, rfl⟩
    · exact h M H' Step.refl r v rv
    · exact h M _ (Step.new n) (r.new n) v rv
  | own ds =>
    intro p vs n rv
    refine h _ _ (Step.newM n) (r.newM n) _ ⟨p, vs, rfl, .inr rfl, upd_same, rv.step (Step.newM n), fun i es e z => ?_⟩
    obtain ⟨a, ws, h1, h2, h3, _⟩ := r.own i es e
    rw [h1] at z
    have : a = p := by simpa using z
    subst this
    rw [n] at h3; cases h3
end

/-! ## the denotation of a piece of syntax -/
structure PD (X : Cx) (W : WX) (xi : XI) (e : Expr) (d : Loc → R (Sl × Loc)) : Prop where
  ex : ∃ t : TE, PE X e t ∧ ∀ (Xs : Ad) (σ : L2.St) (H : Hp) (l : Loc) (M : Ad) (Q : VK), RepLoc X.K Xs M σ H l →
    Po ⟨X.K, Xs, W, xi, σ⟩ M H (fun s l' M' H' => ∀ v, RepR X.K Xs M' σ l' H' v s → Q v H') (d l) → t σ H Q
structure PAD (X : Cx) (W : WX) (xi : XI) (e : Expr) (d : Loc → R (A × Loc)) : Prop where
  ex : ∃ t : TE, PE X e t ∧ ∀ (Xs : Ad) (σ : L2.St) (H : Hp) (l : Loc) (M : Ad) (Q : VK), RepLoc X.K Xs M σ H l →
    Po ⟨X.K, Xs, W, xi, σ⟩ M H (fun a l' M' H' => ∀ v, RepA ⟨X.K, Xs, W, xi, σ⟩ M' H' v a → Q v H') (d l) → t σ H Q
structure PTD (X : Cx) (W : WX) (xi : XI) (e : Expr) (d : Loc → R (Bool × Loc)) : Prop where
  ex : ∃ t : TT, PT X e t ∧ ∀ (Xs : Ad) (σ : L2.St) (H : Hp) (l : Loc) (M : Ad) (Q : Bool → Hp → Prop), RepLoc X.K Xs M σ H l →
    Po ⟨X.K, Xs, W, xi, σ⟩ M H (fun b l' M' H' => Q b H') (d l) → t σ H Q
/-- argument lists: read late -/
structure PLA (X : Cx) (W : WX) (xi : XI) (es : List Expr) (d : Loc → R (List A × Loc)) : Prop where
  ex : ∃ t : TA, PA X es t ∧ ∀ (Xs : Ad) (σ : L2.St) (H : Hp) (l : Loc) (M : Ad) (Q : List V → Hp → Prop), RepLoc X.K Xs M σ H l →
    Po ⟨X.K, Xs, W, xi, σ⟩ M H (fun as l' M' H' => ∀ vs, RepAs ⟨X.K, Xs, W, xi, σ⟩ M' H' vs as → Q vs H') (d l) → t σ H Q
/-- .. as data -/
structure PLD (X : Cx) (W : WX) (xi : XI) (es : List Expr) (d : Loc → R (List D × Loc)) : Prop where
  ex : ∃ t : TA, PA X es t ∧ ∀ (Xs : Ad) (σ : L2.St) (H : Hp) (l : Loc) (M : Ad) (Q : List V → Hp → Prop), RepLoc X.K Xs M σ H l →
    Po ⟨X.K, Xs, W, xi, σ⟩ M H (fun ds l' M' H' => ∀ vs, RepL X.K (Fb Xs M') H' vs ds → Q vs H') (d l) → t σ H Q
/-- keywords -/
structure PKA (X : Cx) (W : WX) (xi : XI) (ks : List Keyword) (d : Loc → R (List A × Loc)) : Prop where
  ex : ∃ t : TA, PK X ks t ∧ ∀ (Xs : Ad) (σ : L2.St) (H : Hp) (l : Loc) (M : Ad) (Q : List V → Hp → Prop), RepLoc X.K Xs M σ H l →
    Po ⟨X.K, Xs, W, xi, σ⟩ M H (fun as l' M' H' => ∀ vs, RepAs ⟨X.K, Xs, W, xi, σ⟩ M' H' vs as → Q vs H') (d l) → t σ H Q

def evA1 (Γ : Gam) (e : E) (l : Loc) : R (A × Loc) := match e with
  | .var i => (match res l (.pos i) with
    | some _ => .ok (.pos i, l)
    | none => .bad)
  | e => (evX Γ e l).bind fun r => .ok (.dat r.1.d, r.2)
theorem evAs_cons (Γ : Gam) (e : E) (es : List E) (l : Loc) : evAs Γ (e :: es) l = (evA1 Γ e l).bind fun r => (evAs Γ es r.2).bind fun r2 => .ok (r.1 :: r2.1, r2.2) := by
  cases e with
  | var i =>
    rw [evAs.eq_def, evA1]
    dsimp only
    cases res l (.pos i) <;> rfl
  | _ =>
    rw [evAs.eq_def]
    dsimp only
    unfold evA1
    dsimp only
    generalize evX Γ _ l = r
    cases r <;> rfl
section
variable {X : Cx} {W : WX} {xi : XI} {Γ : Gam}
theorem PD.pad {e : Expr} {e' : E} (h : PD X W xi e (evX Γ e')) (hv : ∀ i, e' = .var i → ∃ t, PE X e t ∧ t = tVar i) : PAD X W xi e (evA1 Γ e') := by
  by_cases hx : ∃ i, e' = .var i
  · obtain ⟨i, rfl⟩ := hx
    obtain ⟨t, ht, rfl⟩ := hv i rfl
    refine ⟨tVar i, ht, fun Xs σ H l M Q r q => ?_⟩
    unfold evA1 at q
    dsimp only at q
    cases e1 : res l (.pos i) with
    | none => rw [e1] at q; exact q.elim
    | some d =>
      rw [e1] at q
      have h1 : ∃ v, σ[i]? = some (some v) := by
        rw [res_pos] at e1
        split at e1
        · rename_i _ e2
          obtain ⟨w, h1, _⟩ := r.val i _ e2
          exact ⟨w, h1⟩
        · rename_i _ e2
          obtain ⟨a, vs, h1, _⟩ := r.own i _ e2
          exact ⟨_, h1⟩
        · cases e1
      obtain ⟨v, h1⟩ := h1
      exact ⟨v, h1, q M H Step.refl r v h1⟩
  · obtain ⟨t, ht, q⟩ := h.ex
    refine ⟨t, ht, fun Xs σ H l M Q r p => q Xs σ H l M Q r ?_⟩
    have e0 : evA1 Γ e' l = (evX Γ e' l).bind fun r => .ok (.dat r.1.d, r.2) := by
      unfold evA1
      cases e' <;> first | rfl | exact absurd ⟨_, rfl⟩ hx
    rw [e0] at p
    refine p.bind.imp fun s l' M' H' st rl g v rv => ?_
    obtain ⟨M2, hm, rl2, rv2⟩ := RepR.frozen rl rv
    exact g M2 H' (Step.refl.less hm) rl2 v rv2
theorem pla_nil : PLA X W xi [] (evAs Γ []) := ⟨tNil, pa_nil, fun Xs σ H l M Q r q => by
  have e : evAs Γ [] l = .ok ([], l) := by rw [evAs.eq_def]
  rw [e] at q
  exact q M H Step.refl r [] trivial⟩
theorem pla_cons {e : Expr} {es : List Expr} {e' : E} {es' : List E} (h1 : PAD X W xi e (evA1 Γ e')) (h2 : PLA X W xi es (evAs Γ es')) (hs : starEach (e :: es) X.env = (false, eval e X.env) :: starEach es X.env) : PLA X W xi (e :: es) (evAs Γ (e' :: es')) := by
  obtain ⟨t, ht, q⟩ := h1.ex
  obtain ⟨u, hu, p⟩ := h2.ex
  refine ⟨tCons t u, pa_cons ht hu hs, fun Xs σ H l M Q r g => ?_⟩
  rw [evAs_cons] at g
  refine q Xs σ H l M _ r (g.bind.imp fun a l1 M1 H1 st rl g1 v rv => ?_)
  refine p Xs σ H1 l1 M1 _ rl (g1.bind.imp fun as l2 M2 H2 st2 rl2 g2 vs rvs => ?_)
  exact g2 M2 H2 Step.refl rl2 (v :: vs) ⟨rv.step st2, rvs⟩
theorem pka_nil : PKA X W xi [] (evAs Γ []) := ⟨tNil, pk_nil, fun Xs σ H l M Q r q => by
  have e : evAs Γ [] l = .ok ([], l) := by rw [evAs.eq_def]
  rw [e] at q
  exact q M H Step.refl r [] trivial⟩
theorem pka_cons {e : Expr} {nm : Option Str} {kpos : Pos} {ks : List Keyword} {e' : E} {es' : List E} (h1 : PAD X W xi e (evA1 Γ e')) (h2 : PKA X W xi ks (evAs Γ es')) : PKA X W xi (⟨nm, e, kpos⟩ :: ks) (evAs Γ (e' :: es')) := by
  obtain ⟨t, ht, q⟩ := h1.ex
  obtain ⟨u, hu, p⟩ := h2.ex
  refine ⟨tCons t u, pk_cons ht hu, fun Xs σ H l M Q r g => ?_⟩
  rw [evAs_cons] at g
  refine q Xs σ H l M _ r (g.bind.imp fun a l1 M1 H1 st rl g1 v rv => ?_)
  refine p Xs σ H1 l1 M1 _ rl (g1.bind.imp fun as l2 M2 H2 st2 rl2 g2 vs rvs => ?_)
  exact g2 M2 H2 Step.refl rl2 (v :: vs) ⟨rv.step st2, rvs⟩
theorem pld_nil : PLD X W xi [] (evDs Γ []) := ⟨tNil, pa_nil, fun Xs σ H l M Q r q => by
  have e : evDs Γ [] l = .ok ([], l) := by rw [evDs.eq_def]
  rw [e] at q
  exact q M H Step.refl r [] RepL.nil⟩
theorem pld_cons {e : Expr} {es : List Expr} {e' : E} {es' : List E} (h1 : PD X W xi e (evX Γ e')) (h2 : PLD X W xi es (evDs Γ es')) (hs : starEach (e :: es) X.env = (false, eval e X.env) :: starEach es X.env) : PLD X W xi (e :: es) (evDs Γ (e' :: es')) := by
  obtain ⟨t, ht, q⟩ := h1.ex
  obtain ⟨u, hu, p⟩ := h2.ex
  refine ⟨tCons t u, pa_cons ht hu hs, fun Xs σ H l M Q r g => ?_⟩
  have e0 : evDs Γ (e' :: es') l = (evX Γ e' l).bind fun r => (evDs Γ es' r.2).bind fun r2 => .ok (r.1.d :: r2.1, r2.2) := by rw [evDs.eq_def]
  rw [e0] at g
  refine q Xs σ H l M _ r (g.bind.imp fun a l1 M1 H1 st rl g1 v rv => ?_)
  obtain ⟨M1', hm, rl1, rv1⟩ := RepR.frozen rl rv
  refine p Xs σ H1 l1 M1' _ rl1 ((g1.shift (Step.refl.less hm)).bind.imp fun as l2 M2 H2 st2 rl2 g2 vs rvs => ?_)
  exact g2 M2 H2 Step.refl rl2 (v :: vs) (RepL.cons (rv1.step st2) rvs)
/-- an operation upon two values -/
theorem two {a b : Expr} {a' b' : E} {p : Prim} (ha : PAD X W xi a (evA1 Γ a')) (hb : PAD X W xi b (evA1 Γ b')) :
    ∃ ta tb, PE X a ta ∧ PE X b tb ∧ ∀ (Xs : Ad) (σ : L2.St) (H : Hp) (l : Loc) (M : Ad) (Q : VK), RepLoc X.K Xs M σ H l →
      Po ⟨X.K, Xs, W, xi, σ⟩ M H (fun s l' M' H' => ∀ v, RepR X.K Xs M' σ l' H' v s → Q v H') (evX Γ (.prim p [a', b']) l) → tOp (RB X.K p) ta tb σ H Q := by
  obtain ⟨ta, hta, qa⟩ := ha.ex
  obtain ⟨tb, htb, qb⟩ := hb.ex
  refine ⟨ta, tb, hta, htb, fun Xs σ H l M Q r g => ?_⟩
  have e0 : evX Γ (.prim p [a', b']) l = ((evA1 Γ a' l).bind fun r => (evA1 Γ b' r.2).bind fun r2 => .ok ([r.1, r2.1], r2.2)).bind fun r => match resL r.2 r.1 with
    | some ds => (match primD p ds with
      | some s => .ok (s, r.2)
      | none => .bad)
    | none => .bad := by
    rw [evX.eq_def]
    dsimp only
    rw [evAs_cons]
    congr 1
    congr 1
    funext r
    rw [evAs_cons]
    cases evA1 Γ b' r.2 with
    | ok r2 => simp [evAs.eq_def]
    | exc x l => rfl
    | bad => rfl
  rw [e0] at g
  refine qa Xs σ H l M _ r (g.bind.bind.imp fun a1 l1 M1 H1 st1 rl1 g1 v rv => ?_)
  refine qb Xs σ H1 l1 M1 _ rl1 (g1.bind.imp fun a2 l2 M2 H2 st2 rl2 g2 w rw => ?_)
  have g3 := g2 M2 H2 Step.refl rl2
  dsimp only at g3
  cases e1 : resL l2 [a1, a2] with
  | none => rw [e1] at g3; exact g3.elim
  | some ds =>
    rw [e1] at g3
    dsimp only at g3
    cases e2 : primD p ds with
    | none => rw [e2] at g3; exact g3.elim
    | some z =>
      rw [e2] at g3
      unfold resL resL resL at e1
      cases r1 : res l2 a1 with
      | none => rw [r1] at e1; cases e1
      | some d1 =>
        rw [r1] at e1
        cases r2 : res l2 a2 with
        | none => rw [r2] at e1; cases e1
        | some d2 =>
          rw [r2] at e1
          cases e1
          refine ⟨Fb Xs M2, d1, d2, z, rl2.tr (C := ⟨X.K, Xs, W, xi, σ⟩), RepA.pk (C := ⟨X.K, Xs, W, xi, σ⟩) rl2 (rv.step st2) r1, RepA.pk (C := ⟨X.K, Xs, W, xi, σ⟩) rl2 rw r2, e2, ?_⟩
          exact fin_of (C := ⟨X.K, Xs, W, xi, σ⟩) rl2 g3 fun z => primD_un (e2.trans (congrArg some z))
end
end DL

set_option Elab.async false
set_option linter.all false
set_option maxRecDepth 100000
set_option maxHeartbeats 2000000
namespace DL
open PySem PySem.Spec PyProof.Rows L2

section
variable {X : Cx}
theorem PkL.one {K : PySem.W.Frag} {F : Ad} {H : Hp} {xs : List V} {ds : List D} {d : D} (h : PkL K F H xs ds) (e : ds = [d]) : ∃ v, xs = [v] ∧ Pk K F H v d := by
  subst e
  match xs, h with
  | [v], h => exact ⟨v, rfl, h.1⟩
theorem PkL.two {K : PySem.W.Frag} {F : Ad} {H : Hp} {xs : List V} {ds : List D} {d e : D} (h : PkL K F H xs ds) (q : ds = [d, e]) : ∃ v w, xs = [v, w] ∧ Pk K F H v d ∧ Pk K F H w e := by
  subst q
  match xs, h with
  | [v, w], h => exact ⟨v, w, rfl, h.1, h.2.1⟩
theorem cp_abs : CallR X (.builtin "abs") (RN X.K .abs) := by
  intro pins s σ H xs us Q I rx h
  obtain ⟨F, ds, z, tr, hd, hp, q⟩ := h
  match ds, hp with
  | [.int i], hp =>
    cases hp
    obtain ⟨v, rfl, k⟩ := hd.one rfl
    rw [k.int'] at rx
    exact call_abs pins s σ H _ us Q I rx ⟨i, rfl, q.val0 (Rep.int _)⟩
theorem cp_int : CallR X (.type "int") (RN X.K .int) := by
  intro pins s σ H xs us Q I rx h
  obtain ⟨F, ds, z, tr, hd, hp, q⟩ := h
  match ds, hp with
  | [.int i], hp =>
    cases hp
    obtain ⟨v, rfl, k⟩ := hd.one rfl
    rw [k.int'] at rx
    exact call_int1 pins s σ H _ us Q I rx (.inl ⟨i, rfl, q.val0 (Rep.int _)⟩)
  | [.bl i], hp =>
    cases hp
    obtain ⟨v, rfl, k⟩ := hd.one rfl
    rw [k.bl'] at rx
    exact call_int1 pins s σ H _ us Q I rx (.inr ⟨i, rfl, q.val0 (Rep.int _)⟩)
theorem cp_len : CallR X (.builtin "len") (RN X.K .len) := by
  intro pins s σ H xs us Q I rx h
  obtain ⟨F, ds, z, tr, hd, hp, q⟩ := h
  match ds, hp with
  | [.tup l], hp =>
    cases hp
    obtain ⟨v, rfl, k⟩ := hd.one rfl
    obtain ⟨a, vs, rfl, h1, h2⟩ := k.tup'
    refine call_len_seq pins s σ H _ us Q I rx ⟨a, vs, rfl, .inr h1.sq, ?_⟩
    rw [h2.length]
    exact q.val0 (Rep.int _)
  | [.lst l], hp =>
    cases hp
    obtain ⟨v, rfl, a, vs, rfl, h1, h2⟩ := hd.one rfl
    refine call_len_seq pins s σ H _ us Q I rx ⟨a, vs, rfl, .inl h1, ?_⟩
    rw [h2.length]
    exact q.val0 (Rep.int _)
theorem cp_list : CallR X (.type "list") (RN X.K .lst) := by
  intro pins s σ H xs us Q I rx h
  obtain ⟨F, ds, z, tr, hd, hp, q⟩ := h
  match ds, hp with
  | [.tup l], hp =>
    cases hp
    obtain ⟨v, rfl, k⟩ := hd.one rfl
    obtain ⟨a, vs, rfl, h1, h2⟩ := k.tup'
    exact call_list_of pins s σ H _ us Q I rx ⟨a, vs, rfl, .inr h1.sq, fun p n => q p vs n h2⟩
  | [.lst l], hp =>
    cases hp
    obtain ⟨v, rfl, a, vs, rfl, h1, h2⟩ := hd.one rfl
    exact call_list_of pins s σ H _ us Q I rx ⟨a, vs, rfl, .inl h1, fun p n => q p vs n h2⟩
theorem cp_tuple : CallR X (.type "tuple") (RN X.K .tup) := by
  intro pins s σ H xs us Q I rx h
  obtain ⟨F, ds, z, tr, hd, hp, q⟩ := h
  match ds, hp with
  | [.tup l], hp =>
    cases hp
    obtain ⟨v, rfl, k⟩ := hd.one rfl
    obtain ⟨a, vs, rfl, h1, h2⟩ := k.tup'
    exact call_tuple_of pins s σ H _ us Q I rx ⟨a, vs, rfl, .inr ⟨h1.sq, q.val0 (Rep.tup h1 h2)⟩⟩
  | [.lst l], hp =>
    cases hp
    obtain ⟨v, rfl, a, vs, rfl, h1, h2⟩ := hd.one rfl
    exact call_tuple_of pins s σ H _ us Q I rx ⟨a, vs, rfl, .inl ⟨h1, q.tup tr h2⟩⟩
theorem cp_min (hc : X.calm = true) : CallR X (.builtin "min") (RN X.K .mn) := by
  intro pins s σ H xs us Q I rx h
  obtain ⟨F, ds, z, tr, hd, hp, q⟩ := h
  match ds, hp with
  | [.int i, .int j], hp =>
    cases hp
    obtain ⟨v, w, rfl, k, m⟩ := hd.two rfl
    rw [k.int', m.int'] at rx
    exact call_min2 hc pins s σ H _ us Q I rx ⟨i, j, rfl, q.val0 (Rep.int _)⟩
theorem cp_max (hc : X.calm = true) : CallR X (.builtin "max") (RN X.K .mx) := by
  intro pins s σ H xs us Q I rx h
  obtain ⟨F, ds, z, tr, hd, hp, q⟩ := h
  match ds, hp with
  | [.int i, .int j], hp =>
    cases hp
    obtain ⟨v, w, rfl, k, m⟩ := hd.two rfl
    rw [k.int', m.int'] at rx
    exact call_max2 hc pins s σ H _ us Q I rx ⟨i, j, rfl, q.val0 (Rep.int _)⟩
def istN : Nat → String
  | 0 => "int" | 1 => "bool" | 2 => "str" | 3 => "tuple" | _ => "list"
theorem kit_all (T : Nat) (d : D) (h : T < 5) : kitB (tyN d) (istN T) = some (istD T d) := by
  match T, h with
  | 0, _ => cases d <;> (simp only [tyN, istN, istD]; decide +kernel)
  | 1, _ => cases d <;> (simp only [tyN, istN, istD]; decide +kernel)
  | 2, _ => cases d <;> (simp only [tyN, istN, istD]; decide +kernel)
  | 3, _ => cases d <;> (simp only [tyN, istN, istD]; decide +kernel)
  | 4, _ => cases d <;> (simp only [tyN, istN, istD]; decide +kernel)
/-- isinstance(x, T) -/
def RIs (K : PySem.W.Frag) (T : Nat) : List V → Hp → VK → Prop := fun xs H Q => ∃ (F : Ad) (d : D) (v : V) (s : Sl), xs = [v, .ty (istN T)] ∧ Trk F H ∧ Pk K F H v d ∧ primD (.ist T) [d] = some s ∧ FinP K F H Q s
theorem cp_isi {T : Nat} : CallR X (.builtin "isinstance") (RIs X.K T) := by
  intro pins s σ H xs us Q I rx h
  obtain ⟨F, d, v, z, rfl, tr, hd, hp, q⟩ := h
  simp only [primD] at hp
  split at hp <;> cases hp
  rename_i hT
  exact call_isi pins s σ H _ us Q I rx ⟨v, .ty (istN T), .type (tyN d), .type (istN T), istD T d, rfl, .ty _, hd.ty, kit_ty (kit_all T d hT), q.val0 (Rep.bl _)⟩
end

section
variable {X : Cx} {W : WX} {xi : XI} {Γ : Gam}
/-- a call of a built-in with values -/
theorem many {es : List Expr} {es' : List E} {p : Prim} (h : PLA X W xi es (evAs Γ es')) :
    ∃ t, PA X es t ∧ ∀ (Xs : Ad) (σ : L2.St) (H : Hp) (l : Loc) (M : Ad) (Q : VK), RepLoc X.K Xs M σ H l →
      Po ⟨X.K, Xs, W, xi, σ⟩ M H (fun s l' M' H' => ∀ v, RepR X.K Xs M' σ l' H' v s → Q v H') (evX Γ (.prim p es') l) → tCB (RN X.K p) t σ H Q := by
  obtain ⟨t, ht, q⟩ := h.ex
  refine ⟨t, ht, fun Xs σ H l M Q r g => ?_⟩
  rw [evX.eq_def] at g
  dsimp only at g
  refine q Xs σ H l M _ r (g.bind.imp fun as l1 M1 H1 st1 rl1 g1 vs rv => ?_)
  dsimp only at g1
  cases e1 : resL l1 as with
  | none => rw [e1] at g1; exact g1.elim
  | some ds =>
    rw [e1] at g1
    dsimp only at g1
    cases e2 : primD p ds with
    | none => rw [e2] at g1; exact g1.elim
    | some z =>
      rw [e2] at g1
      exact ⟨Fb Xs M1, ds, z, rl1.tr (C := ⟨X.K, Xs, W, xi, σ⟩), RepAs.pk (C := ⟨X.K, Xs, W, xi, σ⟩) rl1 rv e1, e2, fin_of (C := ⟨X.K, Xs, W, xi, σ⟩) rl1 g1 fun z => primD_un (e2.trans (congrArg some z))⟩
/-- .. with one value -/
theorem sole {a : Expr} {a' : E} {p : Prim} (h : PAD X W xi a (evA1 Γ a')) :
    ∃ t, PE X a t ∧ ∀ (Xs : Ad) (σ : L2.St) (H : Hp) (l : Loc) (M : Ad) (Q : VK), RepLoc X.K Xs M σ H l →
      Po ⟨X.K, Xs, W, xi, σ⟩ M H (fun s l' M' H' => ∀ v, RepR X.K Xs M' σ l' H' v s → Q v H') (evX Γ (.prim p [a']) l) →
      t σ H fun x H1 => ∃ (F : Ad) (d : D) (s : Sl), Trk F H1 ∧ Pk X.K F H1 x d ∧ primD p [d] = some s ∧ FinP X.K F H1 Q s := by
  obtain ⟨t, ht, q⟩ := h.ex
  refine ⟨t, ht, fun Xs σ H l M Q r g => ?_⟩
  have e0 : evX Γ (.prim p [a']) l = (evA1 Γ a' l).bind fun r => match res r.2 r.1 with
    | some d => (match primD p [d] with
      | some s => .ok (s, r.2)
      | none => .bad)
    | none => .bad := by
    rw [evX.eq_def]
    dsimp only
    rw [evAs_cons]
    cases evA1 Γ a' l with
    | ok r2 =>
      simp only [R.bind, evAs.eq_def, resL]
      cases res r2.2 r2.1 <;> rfl
    | exc x l => rfl
    | bad => rfl
  rw [e0] at g
  refine q Xs σ H l M _ r (g.bind.imp fun a l1 M1 H1 st1 rl1 g1 v rv => ?_)
  dsimp only at g1
  cases e1 : res l1 a with
  | none => rw [e1] at g1; exact g1.elim
  | some d =>
    rw [e1] at g1
    dsimp only at g1
    cases e2 : primD p [d] with
    | none => rw [e2] at g1; exact g1.elim
    | some z =>
      rw [e2] at g1
      exact ⟨Fb Xs M1, d, z, rl1.tr (C := ⟨X.K, Xs, W, xi, σ⟩), RepA.pk (C := ⟨X.K, Xs, W, xi, σ⟩) rl1 rv e1, e2, fin_of (C := ⟨X.K, Xs, W, xi, σ⟩) rl1 g1 fun z => primD_un (e2.trans (congrArg some z))⟩

theorem RepR.ofVal {K : PySem.W.Frag} {X M : Ad} {σ : L2.St} {l : Loc} {H : Hp} {v : V} {d : D} (h : Rep K (Fb X M) H v d) : RepR K X M σ l H v (.val d) := h
/-! ## each form of an expression -/
theorem pd_cst {e : Expr} {d : D} {v : V} (h : PE X e (tC v)) (r : ∀ F H, Rep X.K F H v d) : PD X W xi e (evX Γ (.cst d)) := ⟨tC v, h, fun Xs σ H l M Q rl g => by
  rw [evX.eq_def] at g
  exact g M H Step.refl rl v (r _ _)⟩
theorem pd_var {e : Expr} {i : Nat} (h : PE X e (tVar i)) : PD X W xi e (evX Γ (.var i)) := ⟨tVar i, h, fun Xs σ H l M Q rl g => by
  rw [evX.eq_def] at g
  dsimp only at g
  cases e1 : l[i]? with
  | none => rw [e1] at g; exact g.elim
  | some s =>
    rw [e1] at g
    cases s with
    | un => exact g.elim
    | val d =>
      obtain ⟨v, h1, h2⟩ := rl.val i d e1
      exact ⟨v, h1, g M H Step.refl rl v h2⟩
    | own ds =>
      obtain ⟨M', hm, rl2, v, h1, h2⟩ := rl.demote e1
      exact ⟨v, h1, g M' H (Step.refl.less hm) rl2 v h2⟩⟩
theorem pd_bin {a b : Expr} {a' b' : E} {p : Prim} {op : Operator} {pos : Pos} (o : OpR X (binaryOp op) (RB X.K p)) (ha : PAD X W xi a (evA1 Γ a')) (hb : PAD X W xi b (evA1 Γ b')) : PD X W xi (.BinOp a op b pos) (evX Γ (.prim p [a', b'])) := by
  obtain ⟨ta, tb, h1, h2, q⟩ := two (p := p) ha hb
  exact ⟨_, pe_op o h1 h2, q⟩
theorem pd_cmp {a b : Expr} {a' b' : E} {p : Prim} {op : CmpOp} {pos : Pos} (o : OpR X (compareOp op) (RB X.K p)) (ha : PAD X W xi a (evA1 Γ a')) (hb : PAD X W xi b (evA1 Γ b')) (hm : behindInMarks op b = false) : PD X W xi (.Compare a [op] [b] pos) (evX Γ (.prim p [a', b'])) := by
  obtain ⟨ta, tb, h1, h2, q⟩ := two (p := p) ha hb
  exact ⟨_, pe_cmpR o h1 h2 hm, q⟩
theorem pd_ix {a b : Expr} {a' b' : E} {pos : Pos} (ha : PAD X W xi a (evA1 Γ a')) (hb : PAD X W xi b (evA1 Γ b')) (hs : PlainIx b) : PD X W xi (.Subscript a b pos) (evX Γ (.prim .ix [a', b'])) := by
  obtain ⟨ta, tb, h1, h2, q⟩ := two (p := .ix) ha hb
  exact ⟨_, pe_ix ixp h1 h2 hs, q⟩
theorem pd_neg {a : Expr} {a' : E} {pos : Pos} (ha : PAD X W xi a (evA1 Γ a')) : PD X W xi (.UnaryOp .USub a pos) (evX Γ (.prim .neg [a'])) := by
  obtain ⟨ta, h1, q⟩ := sole (p := .neg) ha
  exact ⟨_, pe_un opp_neg h1, q⟩
theorem pd_tup {es : List Expr} {es' : List E} {x1 : Nat} {pos : Pos} (h : PLD X W xi es (evDs Γ es')) : PD X W xi (.Tuple es x1 pos) (evX Γ (.pack true es')) := by
  obtain ⟨t, ht, q⟩ := h.ex
  refine ⟨_, pe_tup ht, fun Xs σ H l M Q rl g => ?_⟩
  rw [evX.eq_def] at g
  dsimp only at g
  refine q Xs σ H l M _ rl (g.bind.imp fun ds l1 M1 H1 st1 rl1 g1 vs rv => ?_)
  dsimp only at g1
  by_cases hz : ds.length ≤ 16777216
  · rw [if_pos hz] at g1
    refine ⟨by rw [rv.length, nat_sl]; exact hz, fun p n => ?_⟩
    have f := fin_of (C := ⟨X.K, Xs, W, xi, σ⟩) rl1 g1 (fun z => by cases z)
    exact FinP.tup (rl1.tr (C := ⟨X.K, Xs, W, xi, σ⟩)) f rv p n
  · rw [if_neg hz] at g1; exact g1.elim
theorem pd_lst {es : List Expr} {es' : List E} {pos : Pos} (h : PLD X W xi es (evDs Γ es')) : PD X W xi (.List es pos) (evX Γ (.pack false es')) := by
  obtain ⟨t, ht, q⟩ := h.ex
  refine ⟨_, pe_lst ht, fun Xs σ H l M Q rl g => ?_⟩
  rw [evX.eq_def] at g
  dsimp only at g
  refine q Xs σ H l M _ rl (g.bind.imp fun ds l1 M1 H1 st1 rl1 g1 vs rv => ?_)
  dsimp only at g1
  by_cases hz : ds.length ≤ 16777216
  · rw [if_pos hz] at g1
    refine ⟨by rw [rv.length, nat_sl]; exact hz, fun p n => ?_⟩
    have f := fin_of (C := ⟨X.K, Xs, W, xi, σ⟩) rl1 g1 (fun z => by cases z)
    exact f p vs n rv
  · rw [if_neg hz] at g1; exact g1.elim
theorem pd_and {a b : Expr} {rest : List Expr} {a' b' : E} {pos : Pos} (ha : PD X W xi a (evX Γ a')) (hb : PD X W xi (.BoolOp .And (b :: rest) pos) (evX Γ b')) : PD X W xi (.BoolOp .And (a :: b :: rest) pos) (evX Γ (.and a' b')) := by
  obtain ⟨t, ht, q⟩ := ha.ex
  obtain ⟨u, hu, p⟩ := hb.ex
  refine ⟨_, pe_and ht hu, fun Xs σ H l M Q rl g => ?_⟩
  rw [evX.eq_def] at g
  dsimp only at g
  refine q Xs σ H l M _ rl (g.bind.imp fun s l1 M1 H1 st1 rl1 g1 v rv => ?_)
  dsimp only at g1
  split at g1
  · have e : v = .bl true := by simpa [RepR, Rep] using rv
    subst e
    exact ⟨true, rfl, p Xs σ H1 l1 M1 Q rl1 g1⟩
  · have e : v = .bl false := by simpa [RepR, Rep] using rv
    subst e
    refine ⟨false, rfl, ?_⟩
    rw [if_neg Bool.false_ne_true]
    exact g1 M1 H1 Step.refl rl1 _ (RepR.ofVal (Rep.bl _))
  · exact g1.elim
theorem pd_or {a b : Expr} {rest : List Expr} {a' b' : E} {pos : Pos} (ha : PD X W xi a (evX Γ a')) (hb : PD X W xi (.BoolOp .Or (b :: rest) pos) (evX Γ b')) : PD X W xi (.BoolOp .Or (a :: b :: rest) pos) (evX Γ (.or a' b')) := by
  obtain ⟨t, ht, q⟩ := ha.ex
  obtain ⟨u, hu, p⟩ := hb.ex
  refine ⟨_, pe_or ht hu, fun Xs σ H l M Q rl g => ?_⟩
  rw [evX.eq_def] at g
  dsimp only at g
  refine q Xs σ H l M _ rl (g.bind.imp fun s l1 M1 H1 st1 rl1 g1 v rv => ?_)
  dsimp only at g1
  split at g1
  · have e : v = .bl false := by simpa [RepR, Rep] using rv
    subst e
    refine ⟨false, rfl, ?_⟩
    rw [if_neg Bool.false_ne_true]
    exact p Xs σ H1 l1 M1 Q rl1 g1
  · have e : v = .bl true := by simpa [RepR, Rep] using rv
    subst e
    refine ⟨true, rfl, ?_⟩
    rw [if_pos rfl]
    exact g1 M1 H1 Step.refl rl1 _ (RepR.ofVal (Rep.bl _))
  · exact g1.elim
theorem pd_not {a : Expr} {a' : E} {pos : Pos} (ha : PD X W xi a (evX Γ a')) : PD X W xi (.UnaryOp .Not a pos) (evX Γ (.not a')) := by
  obtain ⟨t, ht, q⟩ := ha.ex
  refine ⟨_, pe_not ht, fun Xs σ H l M Q rl g => ?_⟩
  rw [evX.eq_def] at g
  dsimp only at g
  refine q Xs σ H l M _ rl (g.bind.imp fun s l1 M1 H1 st1 rl1 g1 v rv => ?_)
  dsimp only at g1
  split at g1
  · rename_i b
    have e : v = .bl b := by simpa [RepR, Rep] using rv
    subst e
    exact ⟨b, rfl, g1 M1 H1 Step.refl rl1 _ (RepR.ofVal (Rep.bl _))⟩
  · exact g1.elim
theorem pd_ite {c a b : Expr} {c' a' b' : E} {pos : Pos} (hc : PTD X W xi c (evT Γ c')) (ha : PD X W xi a (evX Γ a')) (hb : PD X W xi b (evX Γ b')) : PD X W xi (.IfExp c a b pos) (evX Γ (.ite c' a' b')) := by
  obtain ⟨t, ht, q⟩ := ha.ex
  obtain ⟨u, hu, p⟩ := hb.ex
  obtain ⟨w, hw, o⟩ := hc.ex
  refine ⟨_, pe_ifExp hw ht hu, fun Xs σ H l M Q rl g => ?_⟩
  rw [evX.eq_def] at g
  dsimp only at g
  refine o Xs σ H l M _ rl (g.bind.imp fun b l1 M1 H1 st1 rl1 g1 => ?_)
  dsimp only at g1
  cases b with
  | true => exact q Xs σ H1 l1 M1 Q rl1 g1
  | false => exact p Xs σ H1 l1 M1 Q rl1 g1
/-- tests -/
theorem ptd_and1 {a : Expr} {a' : E} {pos : Pos} (ha : PTD X W xi a (evT Γ a')) : ∃ t : TT, PW X (.BoolOp .And [a] pos) t ∧ ∀ (Xs : Ad) (σ : L2.St) (H : Hp) (l : Loc) (M : Ad) (Q : Bool → Hp → Prop), RepLoc X.K Xs M σ H l →
    Po ⟨X.K, Xs, W, xi, σ⟩ M H (fun b l' M' H' => Q b H') (evT Γ a' l) → t σ H Q := by
  obtain ⟨t, ht, q⟩ := ha.ex
  exact ⟨t, pw_and1 ht, q⟩
theorem ptd_or1 {a : Expr} {a' : E} {pos : Pos} (ha : PTD X W xi a (evT Γ a')) : ∃ t : TT, PW X (.BoolOp .Or [a] pos) t ∧ ∀ (Xs : Ad) (σ : L2.St) (H : Hp) (l : Loc) (M : Ad) (Q : Bool → Hp → Prop), RepLoc X.K Xs M σ H l →
    Po ⟨X.K, Xs, W, xi, σ⟩ M H (fun b l' M' H' => Q b H') (evT Γ a' l) → t σ H Q := by
  obtain ⟨t, ht, q⟩ := ha.ex
  exact ⟨t, pw_or1 ht, q⟩
structure PWD (X : Cx) (W : WX) (xi : XI) (e : Expr) (d : Loc → R (Bool × Loc)) : Prop where
  ex : ∃ t : TT, PW X e t ∧ ∀ (Xs : Ad) (σ : L2.St) (H : Hp) (l : Loc) (M : Ad) (Q : Bool → Hp → Prop), RepLoc X.K Xs M σ H l →
    Po ⟨X.K, Xs, W, xi, σ⟩ M H (fun b l' M' H' => Q b H') (d l) → t σ H Q
theorem PWD.ptd {e : Expr} {d : Loc → R (Bool × Loc)} (h : PWD X W xi e d) : PTD X W xi e d := by
  obtain ⟨t, ht, q⟩ := h.ex
  exact ⟨t, ht.pt, q⟩
theorem pwd_and {a b : Expr} {rest : List Expr} {a' b' : E} {pos : Pos} (ha : PTD X W xi a (evT Γ a')) (hb : PWD X W xi (.BoolOp .And (b :: rest) pos) (evT Γ b')) : PWD X W xi (.BoolOp .And (a :: b :: rest) pos) (evT Γ (.and a' b')) := by
  obtain ⟨t, ht, q⟩ := ha.ex
  obtain ⟨u, hu, p⟩ := hb.ex
  refine ⟨_, pw_and ht hu, fun Xs σ H l M Q rl g => ?_⟩
  rw [evT.eq_def] at g
  dsimp only at g
  refine q Xs σ H l M _ rl (g.bind.imp fun b l1 M1 H1 st1 rl1 g1 => ?_)
  cases b with
  | true => exact p Xs σ H1 l1 M1 Q rl1 g1
  | false => exact g1 M1 H1 Step.refl rl1
theorem pwd_or {a b : Expr} {rest : List Expr} {a' b' : E} {pos : Pos} (ha : PTD X W xi a (evT Γ a')) (hb : PWD X W xi (.BoolOp .Or (b :: rest) pos) (evT Γ b')) : PWD X W xi (.BoolOp .Or (a :: b :: rest) pos) (evT Γ (.or a' b')) := by
  obtain ⟨t, ht, q⟩ := ha.ex
  obtain ⟨u, hu, p⟩ := hb.ex
  refine ⟨_, pw_or ht hu, fun Xs σ H l M Q rl g => ?_⟩
  rw [evT.eq_def] at g
  dsimp only at g
  refine q Xs σ H l M _ rl (g.bind.imp fun b l1 M1 H1 st1 rl1 g1 => ?_)
  cases b with
  | true => exact g1 M1 H1 Step.refl rl1
  | false => exact p Xs σ H1 l1 M1 Q rl1 g1
theorem ptd_not {a : Expr} {a' : E} {pos : Pos} (ha : PTD X W xi a (evT Γ a')) : PTD X W xi (.UnaryOp .Not a pos) (evT Γ (.not a')) := by
  obtain ⟨t, ht, q⟩ := ha.ex
  refine ⟨_, pt_not ht, fun Xs σ H l M Q rl g => ?_⟩
  rw [evT.eq_def] at g
  dsimp only at g
  exact q Xs σ H l M _ rl (g.bind.imp fun b l1 M1 H1 st1 rl1 g1 => g1 M1 H1 Step.refl rl1)
theorem ptd_cmp {a b : Expr} {a' b' : E} {p : Prim} {op : CmpOp} {pos : Pos} (o : OpR X (compareOp op) (RB X.K p)) (ha : PAD X W xi a (evA1 Γ a')) (hb : PAD X W xi b (evA1 Γ b')) (hm : behindInMarks op b = false)
    (hp : ∀ ds s, primD p ds = some s → ∃ b, s = .val (.bl b)) : PTD X W xi (.Compare a [op] [b] pos) (evT Γ (.prim p [a', b'])) := by
  obtain ⟨ta, tb, h1, h2, q⟩ := two (p := p) ha hb
  refine ⟨_, pt_cmpR o h1 h2 hm, fun Xs σ H l M Q rl g => q Xs σ H l M _ rl ?_⟩
  rw [evT.eq_def] at g
  rw [evX.eq_def]
  dsimp only at g ⊢
  cases e1 : evAs Γ [a', b'] l with
  | bad => rw [e1] at g; exact g.elim
  | exc x l1 => rw [e1] at g; exact g
  | ok r =>
    rw [e1] at g
    dsimp only [R.bind] at g ⊢
    cases e2 : resL r.2 r.1 with
    | none => rw [e2] at g; exact g.elim
    | some ds =>
      rw [e2] at g
      dsimp only at g ⊢
      cases e3 : primD p ds with
      | none => rw [e3] at g; exact g.elim
      | some z =>
        rw [e3] at g
        obtain ⟨b, rfl⟩ := hp _ _ e3
        dsimp only [Sl.d, truth] at g ⊢
        intro M1 H1 st1 rl1 v rv
        have e : v = .bl b := by simpa [RepR, Rep] using rv
        subst e
        exact ⟨b, rfl, g M1 H1 st1 rl1⟩
/-- a plain value as a test -/
theorem tru_of {K : PySem.W.Frag} {F : Ad} {H : Hp} {v : V} {d : D} {b : Bool} (h : Pk K F H v d) (t : truth d = some b) : TruV K v H b := by
  cases d with
  | non => rw [h.non']; cases t; rfl
  | bl b => rw [h.bl']; cases t; rfl
  | int i => rw [h.int']; cases t; rfl
  | str x =>
    rw [h.str']
    unfold truth at t
    dsimp only at t
    split at t
    · cases t
      exact ⟨by rw [nat_sl]; assumption, rfl⟩
    · cases t
  | tup ds =>
    obtain ⟨a, vs, rfl, h1, h2⟩ := h.tup'
    cases t
    refine .inr (.inl ⟨vs, h1.sq, ?_⟩)
    have := h2.length
    cases vs <;> cases ds <;> simp_all
  | lst ds =>
    obtain ⟨a, vs, rfl, h1, h2⟩ := h
    cases t
    refine .inl ⟨vs, h1, ?_⟩
    have := h2.length
    cases vs <;> cases ds <;> simp_all
def plainT : E → Bool
  | .var _ | .cst _ | .prim _ _ | .call _ _ _ _ => true
  | _ => false
theorem ptd_plain {e : Expr} {e' : E} (h : PAD X W xi e (evA1 Γ e')) (hp : plainT e' = true) (he : ∀ whole, isTrue e X.env whole = (do let v ← whole; standAt e.pos; holding [v] (truthy v))) : PTD X W xi e (evT Γ e') := by
  obtain ⟨t, ht, q⟩ := h.ex
  refine ⟨_, pt_truth ht he, fun Xs σ H l M Q rl g => q Xs σ H l M _ rl ?_⟩
  have e0 : evT Γ e' l = (evA1 Γ e' l).bind fun r => match res r.2 r.1 with
    | some d => (match truth d with | some b => .ok (b, r.2) | none => .bad)
    | none => .bad := by
    cases e' with
    | var i =>
      rw [evT.eq_def]; unfold evA1
      dsimp only
      cases e1 : res l (.pos i) with
      | none => rfl
      | some d =>
        simp only [R.bind, e1]
        all_goals (cases truth d <;> rfl)
    | cst d =>
      rw [evT.eq_def]; unfold evA1
      dsimp only
      rw [evX.eq_def]
      dsimp only [R.bind, res, Sl.d]
      all_goals (cases truth d <;> rfl)
    | prim p es =>
      rw [evT.eq_def]; unfold evA1
      dsimp only
      rw [evX.eq_def]
      dsimp only
      cases evAs Γ es l with
      | bad => rfl
      | exc x l1 => rfl
      | ok r =>
        dsimp only [R.bind]
        cases resL r.2 r.1 with
        | none => rfl
        | some ds =>
          dsimp only
          cases primD p ds <;> rfl
    | call f rf pm es =>
      rw [evT.eq_def]; unfold evA1
      dsimp only
      rw [evX.eq_def]
      dsimp only
      cases evAs Γ es l with
      | bad => rfl
      | exc x l1 => rfl
      | ok r =>
        dsimp only [R.bind]
        cases argsOf r.2 rf r.1 0 pm with
        | none => rfl
        | some args =>
          dsimp only
          cases Γ f args with
          | bad => rfl
          | exc x l1 => cases rf <;> rfl
          | ok s =>
            dsimp only
            cases after r.2 rf r.1 pm s.1 s.2 <;> rfl
    | _ => cases hp
  rw [e0] at g
  refine g.bind.imp fun a l1 M1 H1 st1 rl1 g1 v rv => ?_
  dsimp only at g1
  cases e1 : res l1 a with
  | none => rw [e1] at g1; exact g1.elim
  | some d =>
    rw [e1] at g1
    dsimp only at g1
    cases e2 : truth d with
    | none => rw [e2] at g1; exact g1.elim
    | some b =>
      rw [e2] at g1
      exact ⟨b, tru_of (RepA.pk (C := ⟨X.K, Xs, W, xi, σ⟩) rl1 rv e1) e2, g1 M1 H1 Step.refl rl1⟩
end
end DL

set_option Elab.async false
set_option linter.all false
set_option maxRecDepth 100000
set_option maxHeartbeats 2000000
namespace DL
open PySem PySem.Spec PyProof.Rows L2

/-! ## calls -/
def gather {α : Type} (pm : List Nat) (xs : List α) : List α := pm.filterMap (xs[·]?)
structure Shape where
  n : Nat
  ks : List Str
  pm : List Nat
def ShapeOk (K : PySem.W.Frag) (fd : FuncData) (ps : List Str) (sh : Shape) : Prop :=
  ∀ (s : Shared) (us ws : List Value), K.In s.heap → us.length = sh.n → ws.length = sh.ks.length → BindsTo s fd ⟨us, sh.ks.zip ws⟩ (ps.zip (gather sh.pm (us ++ ws)))
theorem vals_gather {vs : List V} {us : List Value} (r : Vals vs us) : ∀ pm : List Nat, Vals (gather pm vs) (gather pm us)
  | [] => .nil
  | k :: pm => by
    unfold gather
    rw [List.filterMap_cons, List.filterMap_cons]
    cases e : vs[k]? with
    | none =>
      rw [Vals.none_of r e]
      exact vals_gather r pm
    | some v =>
      obtain ⟨u, hu, rv⟩ := Vals.get r e
      rw [hu]
      exact .cons rv (vals_gather r pm)
/-- what a def of the small language promises -/
def spOf (K : PySem.W.Frag) (xi : XI) (np : Nat) (rf : Option Nat) (F : List Sl → R (Sl × List Sl)) : Sp := fun vs H Q E =>
  ∃ (X M : Ad) (ss : List Sl), vs.length = np ∧ RepLoc K X M (vs.map some) H ss ∧ (∀ a, M a → ∃ (i : Nat) (ds : List D), ss[i]? = some (.own ds) ∧ vs[i]? = some (.ref a)) ∧ (∀ (i : Nat) (ds : List D), ss[i]? = some (.own ds) → rf = some i) ∧
    (match F ss with
    | .ok r => ∀ v M' H', Step M H M' H' → RepLoc K X M' (vs.map some) H' r.2 → RepR K X M' (vs.map some) r.2 H' v r.1 → Q v H'
    | .exc x _ => ∀ cls d M' H', Step M H M' H' → xi x cls d H' → E cls d H'
    | .bad => False)

section
variable {l : Loc} {rf : Option Nat} {as : List A}
theorem argsOf_len : ∀ {pm : List Nat} {j : Nat} {ss : List Sl}, argsOf l rf as j pm = some ss → ss.length = pm.length
  | [], j, ss, h => by unfold argsOf at h; cases h; rfl
  | k :: ks, j, ss, h => by
    unfold argsOf at h
    cases e1 : as[k]? with
    | none => rw [e1] at h; cases h
    | some a =>
      cases e2 : argsOf l rf as (j + 1) ks with
      | none => rw [e1, e2] at h; cases h
      | some r =>
        rw [e1, e2] at h
        dsimp only at h
        rw [Option.map_eq_some_iff] at h
        obtain ⟨s, _, rfl⟩ := h
        rw [List.length_cons, List.length_cons, argsOf_len e2]
theorem argsOf_get : ∀ {pm : List Nat} {j : Nat} {ss : List Sl}, argsOf l rf as j pm = some ss → ∀ (m : Nat) (s : Sl), ss[m]? = some s → ∃ (k : Nat) (a : A), pm[m]? = some k ∧ as[k]? = some a ∧ argOf l (rf == some (j + m)) a = some s
  | [], j, ss, h, m, s, q => by unfold argsOf at h; cases h; simp at q
  | k :: ks, j, ss, h, m, s, q => by
    unfold argsOf at h
    cases e1 : as[k]? with
    | none => rw [e1] at h; cases h
    | some a =>
      cases e2 : argsOf l rf as (j + 1) ks with
      | none => rw [e1, e2] at h; cases h
      | some r =>
        rw [e1, e2] at h
        dsimp only at h
        rw [Option.map_eq_some_iff] at h
        obtain ⟨s0, h0, rfl⟩ := h
        cases m with
        | zero =>
          simp at q; subst q
          exact ⟨k, a, rfl, e1, h0⟩
        | succ m =>
          obtain ⟨k', a', g1, g2, g3⟩ := argsOf_get e2 m s (by simpa using q)
          exact ⟨k', a', by simpa using g1, g2, by rw [show j + (m + 1) = j + 1 + m by omega]; exact g3⟩
theorem argsOf_as : ∀ {pm : List Nat} {j : Nat} {ss : List Sl}, argsOf l rf as j pm = some ss → ∀ k ∈ pm, ∃ a, as[k]? = some a
  | [], j, ss, h, k, q => by cases q
  | k :: ks, j, ss, h, k', q => by
    unfold argsOf at h
    cases e1 : as[k]? with
    | none => rw [e1] at h; cases h
    | some a =>
      cases e2 : argsOf l rf as (j + 1) ks with
      | none => rw [e1, e2] at h; cases h
      | some r =>
        rcases List.mem_cons.mp q with rfl | q
        · exact ⟨a, e1⟩
        · exact argsOf_as e2 k' q
theorem peeks_in : ∀ {pm : List Nat} {j m k i : Nat} {ds : List D}, pm[m]? = some k → as[k]? = some (.pos i) → l[i]? = some (.own ds) → (rf == some (j + m)) = false → i ∈ peeks l rf as j pm
  | [], j, m, k, i, ds, h, _, _, _ => by simp at h
  | p :: pm, j, 0, k, i, ds, h, h1, h2, h3 => by
    simp at h; subst h
    unfold peeks
    refine List.mem_append_left _ ?_
    rw [h1]
    dsimp only
    rw [show (rf == some j) = false from h3, if_neg Bool.false_ne_true, h2]
    exact List.mem_singleton.mpr rfl
  | p :: pm, j, m + 1, k, i, ds, h, h1, h2, h3 => by
    unfold peeks
    exact List.mem_append_right _ (peeks_in (j := j + 1) (m := m) (by simpa using h) h1 h2 (by rw [show j + 1 + m = j + (m + 1) by omega]; exact h3))
theorem peeks_own : ∀ {pm : List Nat} {j i : Nat}, i ∈ peeks l rf as j pm → ∃ ds, l[i]? = some (.own ds)
  | [], j, i, h => by unfold peeks at h; cases h
  | p :: pm, j, i, h => by
    unfold peeks at h
    rcases List.mem_append.mp h with h | h
    · split at h
      · split at h
        · cases h
        · split at h
          · rename_i ds e
            rw [List.mem_singleton.mp h]; exact ⟨ds, e⟩
          · cases h
      · cases h
    · exact peeks_own h
theorem demotes_get : ∀ (ps : List Nat) (l : Loc) (k : Nat), (demotes l ps)[k]? = match l[k]? with
    | some (.own ds) => if k ∈ ps then some (.val (.lst ds)) else some (.own ds)
    | o => o
  | [], l, k => by
    unfold demotes
    cases e : l[k]? with
    | none => rfl
    | some s => cases s <;> simp
  | i :: ps, l, k => by
    unfold demotes
    rw [demotes_get ps]
    unfold demote
    cases e : l[i]? with
    | none => 
      dsimp only
      cases e2 : l[k]? with
      | none => rfl
      | some s =>
        cases s with
        | own ds =>
          have : k ≠ i := fun z => by subst z; rw [e] at e2; cases e2
          simp [this]
        | _ => rfl
    | some s =>
      have hi : i < l.length := (List.getElem?_eq_some_iff.mp e).1
      cases s with
      | own ds =>
        dsimp only
        by_cases hk : k = i
        · subst hk
          rw [List.getElem?_set_self hi, e]
          simp
        · rw [List.getElem?_set_ne (Ne.symm hk)]
          cases e2 : l[k]? with
          | none => rfl
          | some s => cases s <;> simp [hk]
      | _ =>
        dsimp only
        cases e2 : l[k]? with
        | none => rfl
        | some s =>
          cases s with
          | own ds =>
            have : k ≠ i := fun z => by subst z; rw [e] at e2; cases e2
            simp [this]
          | _ => rfl
theorem demotes_len : ∀ (ps : List Nat) (l : Loc), (demotes l ps).length = l.length
  | [], l => rfl
  | i :: ps, l => by
    unfold demotes
    rw [demotes_len ps]
    unfold demote
    split
    · rw [List.length_set]
    · rfl
end
mutual
theorem Rep.any {K : PySem.W.Frag} {F F' : Ad} {H : Hp} (t : ∀ a, F' a → ∃ vs, H a = some (.lst vs)) : ∀ (d : D) (v : V), nolst d = true → Rep K F H v d → Rep K F' H v d
  | .non, v, _, h => by rw [Rep] at h ⊢; exact h
  | .bl _, v, _, h => by rw [Rep] at h ⊢; exact h
  | .int _, v, _, h => by rw [Rep] at h ⊢; exact h
  | .str _, v, _, h => by rw [Rep] at h ⊢; exact h
  | .tup ds, v, n, h => by
    rw [Rep] at h ⊢
    rw [nolst] at n
    obtain ⟨a, vs, h1, h2, h3⟩ := h
    refine ⟨a, vs, h1, ?_, RepL.any t ds vs n h3⟩
    rcases h2 with ⟨h2 | ⟨o, h2⟩, _⟩ | h2
    · exact .inl ⟨.inl h2, fun z => by obtain ⟨ws, q⟩ := t a z; rw [h2] at q; cases q⟩
    · exact .inl ⟨.inr ⟨o, h2⟩, fun z => by obtain ⟨ws, q⟩ := t a z; rw [h2] at q; cases q⟩
    · exact .inr h2
  | .lst ds, v, n, h => by rw [nolst] at n; cases n
theorem RepL.any {K : PySem.W.Frag} {F F' : Ad} {H : Hp} (t : ∀ a, F' a → ∃ vs, H a = some (.lst vs)) : ∀ (ds : List D) (vs : List V), nolstL ds = true → RepL K F H vs ds → RepL K F' H vs ds
  | [], vs, _, h => by rw [RepL] at h ⊢; exact h
  | d :: ds, vs, n, h => by
    rw [RepL] at h ⊢
    rw [nolstL, Bool.and_eq_true] at n
    obtain ⟨v, r, h1, h2, h3⟩ := h
    exact ⟨v, r, h1, Rep.any t d v n.1 h2, RepL.any t ds r n.2 h3⟩
end

theorem gather_get {α : Type} {xs : List α} : ∀ {pm : List Nat}, (∀ k ∈ pm, ∃ a, xs[k]? = some a) → (gather pm xs).length = pm.length ∧ ∀ (m k : Nat), pm[m]? = some k → (gather pm xs)[m]? = xs[k]?
  | [], _ => ⟨rfl, fun m k h => by simp at h⟩
  | p :: pm, h => by
    obtain ⟨a, ha⟩ := h p List.mem_cons_self
    obtain ⟨h1, h2⟩ := gather_get (fun k hk => h k (List.mem_cons_of_mem _ hk))
    have e : gather (p :: pm) xs = a :: gather pm xs := by
      unfold gather
      rw [List.filterMap_cons, ha]
    rw [e]
    refine ⟨by rw [List.length_cons, List.length_cons, h1], fun m k hm => ?_⟩
    cases m with
    | zero => simp at hm; subst hm; rw [ha]; rfl
    | succ m => exact h2 m k (by simpa using hm)
theorem RepAs.get {C : Cf} {M : Ad} {H : Hp} : ∀ {as : List A} {vs : List V} {k : Nat} {a : A}, RepAs C M H vs as → as[k]? = some a → ∃ v, vs[k]? = some v ∧ RepA C M H v a
  | [], [], k, a, _, e => by simp at e
  | b :: as, v :: vs, 0, a, h, e => by simp at e; subst e; exact ⟨v, rfl, h.1⟩
  | b :: as, v :: vs, k + 1, a, h, e => by
    obtain ⟨w, h1, h2⟩ := RepAs.get h.2 (show as[k]? = some a by simpa using e)
    exact ⟨w, by simpa using h1, h2⟩
  | [], _ :: _, _, _, h, _ => h.elim
  | _ :: _, [], _, _, h, _ => h.elim
end DL

set_option Elab.async false
set_option linter.all false
set_option maxRecDepth 100000
set_option maxHeartbeats 2000000
namespace DL
open PySem PySem.Spec PyProof.Rows L2

/-! ## a call's syntax -/
def notStar : Expr → Bool
  | .Starred _ _ => false
  | _ => true
theorem starEach_cons {e : Expr} {es : List Expr} {env : Env} (h : notStar e = true) : starEach (e :: es) env = (false, eval e env) :: starEach es env := by
  cases e <;> first | rfl | cases h
theorem starEach_any {env : Env} {pos : Pos} : ∀ {es : List Expr}, es.all notStar = true → (backTo pos (starEach es env)).any (·.1) = false
  | [], _ => by simp [starEach, backTo]
  | e :: es, h => by
    rw [List.all_cons, Bool.and_eq_true] at h
    rw [starEach_cons h.1]
    show (false || (backTo pos (starEach es env)).any (·.1)) = false
    rw [starEach_any h.2]; rfl
theorem kw_all {env : Env} {pos : Pos} : ∀ {ks : List Keyword}, ks.all (fun k => k.arg.isSome) = true → (backToKw pos (keywordEach ks env)).all (·.1.isSome) = true ∧ (backToKw pos (keywordEach ks env)).any (·.1.isNone) = false
  | [], _ => by simp [keywordEach, backToKw]
  | ⟨n, e, p⟩ :: ks, h => by
    rw [List.all_cons, Bool.and_eq_true] at h
    obtain ⟨h1, h2⟩ := kw_all (env := env) (pos := pos) h.2
    constructor
    · show (n.isSome && (backToKw pos (keywordEach ks env)).all (·.1.isSome)) = true
      rw [h1, Bool.and_true]; exact h.1
    · show (n.isNone || (backToKw pos (keywordEach ks env)).any (·.1.isNone)) = false
      rw [h2, Bool.or_false]
      have : n.isSome = true := h.1
      cases n <;> first | rfl | cases this
theorem kw_names {env : Env} {pos : Pos} : ∀ {ks : List Keyword}, (backToKw pos (keywordEach ks env)).filterMap (·.1) = ks.filterMap (·.arg)
  | [] => by simp [keywordEach, backToKw]
  | ⟨n, e, p⟩ :: ks => by
    show List.filterMap (·.1) ((n, _) :: backToKw pos (keywordEach ks env)) = _
    rw [List.filterMap_cons, List.filterMap_cons, kw_names]

section
variable {X : Cx} {W : WX} {k : Nat} {f : Addr} {fd : FuncData} {ps : List Str} {sp : Sp} {x : Str} {p pos : Pos} {es : List Expr} {kws : List Keyword} {t tk : TA} {sh : Shape}
theorem run_A {pins : List (Addr × Obj)} {σ : L2.St} {H : Hp} {s : Shared} {Q : VK} {us ws : List Value} {vs zs : List V} (F : FnOk X.prog X.w X.K X.mg X.base (L2.CX X.prog X.w) k f fd ps sp) (hr : Room k X.A) (hb : ShapeOk X.K fd ps sh) (tk : Takes X W)
    (I : Inv X pins σ H s) (r : Vals vs us) (rz : Vals zs ws) (h1 : vs.length = sh.n) (h2 : zs.length = sh.ks.length) (h : sp (gather sh.pm (vs ++ zs)) H Q (fun cls d H' => W cls d σ H')) :
    wpAny (model X.prog X.w) X.A (call (.ref f) us (sh.ks.zip ws)) (EP X pins σ Q) X.xe s := by
  have b := hb s us ws I.kIn (by rw [← r.length]; exact h1) (by rw [← rz.length]; exact h2)
  refine wpAny_call (codeAny_mono (F.run X.A X.stack s H ⟨us, sh.ks.zip ws⟩ (gather sh.pm (us ++ ws)) (gather sh.pm (vs ++ zs)) Q _ hr I.env0 b (vals_gather (r.append rz) sh.pm) h) fun r s' hq => ?_)
  cases r with
  | error e => exact passAt tk σ pins H s e s' I hq
  | ok fl =>
    cases fl with
    | ret u => exact I.after hq
    | next => exact False.elim hq
    | brk => exact False.elim hq
    | cont => exact False.elim hq
/-- the callee's promise at the values of a call -/
abbrev SpA (sp : Sp) (sh : Shape) (W : WX) (σ : L2.St) (vs : List V) (H : Hp) (Q : VK) : Prop := vs.length = sh.n + sh.ks.length ∧ sp (gather sh.pm vs) H Q (fun cls d H' => W cls d σ H')
theorem pe_callP {e : Expr} (F : FnOk X.prog X.w X.K X.mg X.base (L2.CX X.prog X.w) k f fd ps sp) (hr : Room k X.A) (hg : Gl X x) (hm : X.mg x = some (.ref f)) (hk : PySem.W.keepIn X.K (.ref f) = true) (hb : ShapeOk X.K fd ps sh) (tk' : Takes X W)
    (ha : PA X (e :: es) t) (hst : (e :: es).all notStar = true) (hks : sh.ks = []) (hdb : (x == ("__debug__" : Str)) = false) :
    PE X (.Call (.Name x p) (e :: es) [] pos) (fun σ H Q => t σ H fun vs H1 => SpA sp sh W σ vs H1 Q) := by
  refine ⟨fun pins s σ H Q I h => ?_⟩
  refine wpAny_Call_Name_kw (ld_glob I hg hm ?_ hdb)
  rw [List.all_cons, Bool.and_eq_true] at hst
  refine PySem.W.callWith_K (h₀ := X.base) I.ok.mod.kin hk (thn (ha.run pos pins s σ H _ I h) fun us s1 ⟨vs, H1, I1, r, q⟩ => ⟨I1.kIn, ?_⟩) (starEach_cons hst.1) (starEach_any hst.2)
  have e0 : us = us ++ [] := (List.append_nil _).symm
  have q1 := q.1
  rw [hks] at q1
  have := run_A (sh := sh) (us := us) (ws := []) (vs := vs) (zs := []) F hr hb tk' I1 r .nil (by simpa using q1) (by rw [hks]; rfl) (by rw [List.append_nil]; exact q.2)
  rw [hks] at this
  exact this
theorem pe_callPK {e : Expr} (F : FnOk X.prog X.w X.K X.mg X.base (L2.CX X.prog X.w) k f fd ps sp) (hr : Room k X.A) (hg : Gl X x) (hm : X.mg x = some (.ref f)) (hk : PySem.W.keepIn X.K (.ref f) = true) (hb : ShapeOk X.K fd ps sh) (tk' : Takes X W)
    (ha : PA X (e :: es) t) (hkw : PK X kws tk) (hst : (e :: es).all notStar = true) (hnm : kws.all (fun k => k.arg.isSome) = true) (hks : kws.filterMap (·.arg) = sh.ks) (hdb : (x == ("__debug__" : Str)) = false) :
    PE X (.Call (.Name x p) (e :: es) kws pos) (fun σ H Q => t σ H fun vs H1 => tk σ H1 fun zs H2 => vs.length = sh.n ∧ SpA sp sh W σ (vs ++ zs) H2 Q) := by
  refine ⟨fun pins s σ H Q I h => ?_⟩
  refine wpAny_Call_Name_kw (ld_glob I hg hm ?_ hdb)
  obtain ⟨k1, k2⟩ := kw_all (env := X.env) (pos := pos) hnm
  have k3 : (backToKw pos (keywordEach kws X.env)).filterMap (·.1) = sh.ks := kw_names.trans hks
  have k4 : (backTo pos (starEach (e :: es) X.env)).any (·.1) = false := starEach_any hst
  rw [List.all_cons, Bool.and_eq_true] at hst
  refine PySem.W.callWith_KW (h₀ := X.base) I.ok.mod.kin hk k1 (thn (ha.run pos pins s σ H _ I h) fun us s1 ⟨vs, H1, I1, r, q⟩ => ?_) (by rw [k2, k4]; rfl) (starEach_cons hst.1)
  refine thn (hkw.run pos pins s1 σ H1 _ I1 q) fun ws s2 ⟨zs, H2, I2, rz, q1, q2, q3⟩ => ⟨I2.kIn, ?_⟩
  rw [k3]
  exact run_A F hr hb tk' I2 r rz q1 (by rw [List.length_append] at q2; omega) q3
theorem pe_callK0 (F : FnOk X.prog X.w X.K X.mg X.base (L2.CX X.prog X.w) k f fd ps sp) (hr : Room k X.A) (hg : Gl X x) (hm : X.mg x = some (.ref f)) (hk : PySem.W.keepIn X.K (.ref f) = true) (hb : ShapeOk X.K fd ps sh) (tk' : Takes X W)
    (hkw : PK X kws tk) (hn : sh.n = 0) (hnm : kws.all (fun k => k.arg.isSome) = true) (hks : kws.filterMap (·.arg) = sh.ks) (hdb : (x == ("__debug__" : Str)) = false) :
    PE X (.Call (.Name x p) [] kws pos) (fun σ H Q => tk σ H fun zs H2 => SpA sp sh W σ zs H2 Q) := by
  refine ⟨fun pins s σ H Q I h => ?_⟩
  refine wpAny_Call_Name_kw (ld_glob I hg hm ?_ hdb)
  obtain ⟨k1, k2⟩ := kw_all (env := X.env) (pos := pos) hnm
  have k3 : (backToKw pos (keywordEach kws X.env)).filterMap (·.1) = sh.ks := kw_names.trans hks
  refine PySem.W.callWith_KW0 (h₀ := X.base) I.ok.mod.kin hk k1 ?_ (by show (false || _) = false; rw [k2]; rfl)
  refine thn (hkw.run pos pins s σ H _ I h) fun ws s2 ⟨zs, H2, I2, rz, q2, q3⟩ => ⟨I2.kIn, ?_⟩
  rw [k3]
  exact run_A (us := []) (vs := []) F hr hb tk' I2 .nil rz (by rw [hn]; rfl) (by omega) q3
theorem pe_call00 (F : FnOk X.prog X.w X.K X.mg X.base (L2.CX X.prog X.w) k f fd ps sp) (hr : Room k X.A) (hg : Gl X x) (hm : X.mg x = some (.ref f)) (hk : PySem.W.keepIn X.K (.ref f) = true) (hb : ShapeOk X.K fd ps sh) (tk' : Takes X W)
    (hn : sh.n = 0) (hks : sh.ks = []) (hdb : (x == ("__debug__" : Str)) = false) :
    PE X (.Call (.Name x p) [] [] pos) (fun σ H Q => SpA sp sh W σ [] H Q) := by
  refine ⟨fun pins s σ H Q I h => ?_⟩
  refine wpAny_Call_Name_kw (ld_glob I hg hm ?_ hdb)
  refine PySem.W.callWith_K0 I.kIn hk ?_
  have := run_A (sh := sh) (us := []) (ws := []) (vs := []) (zs := []) F hr hb tk' I .nil .nil (by rw [hn]; rfl) (by rw [hks]; rfl) h.2
  rw [hks] at this
  exact this
end
end DL

set_option Elab.async false
set_option linter.all false
set_option maxRecDepth 100000
set_option maxHeartbeats 2000000
namespace DL
open PySem PySem.Spec PyProof.Rows L2

section
variable {C : Cf} {M : Ad} {H : Hp} {l : Loc} {rf : Option Nat} {as : List A} {pm : List Nat} {vs : List V} {args : List Sl}
/-- the own list that is handed on -/
def McOf (C : Cf) (l : Loc) (rf : Option Nat) (as : List A) (pm : List Nat) : Ad := fun a => ∃ (i : Nat) (ds : List D), refAt rf as pm = some i ∧ l[i]? = some (.own ds) ∧ C.σ[i]? = some (some (.ref a))
def PkOf (C : Cf) (l : Loc) (rf : Option Nat) (as : List A) (pm : List Nat) : Ad := fun a => ∃ i ∈ peeks l rf as 0 pm, C.σ[i]? = some (some (.ref a))
def XcOf (C : Cf) (M : Ad) (l : Loc) (rf : Option Nat) (as : List A) (pm : List Nat) : Ad := fun a => (C.Xs a ∨ M a) ∧ ¬ McOf C l rf as pm a ∧ ¬ PkOf C l rf as pm a
theorem own_at (r : RepLoc C.K C.Xs M C.σ H l) {i : Nat} {ds : List D} {a : Addr} (e : l[i]? = some (.own ds)) (s : C.σ[i]? = some (some (.ref a))) : M a ∧ ∃ ws, H a = some (.lst ws) ∧ RepL C.K (Fb C.Xs M) H ws ds := by
  obtain ⟨b, ws, h1, h2, h3, h4⟩ := r.own i ds e
  rw [s] at h1
  have : a = b := by simpa using h1
  subst this
  exact ⟨h2, ws, h3, h4⟩
theorem McOf.own (r : RepLoc C.K C.Xs M C.σ H l) {a : Addr} (h : McOf C l rf as pm a) : M a := by
  obtain ⟨i, ds, _, h2, h3⟩ := h
  exact (own_at r h2 h3).1
theorem PkOf.own (r : RepLoc C.K C.Xs M C.σ H l) {a : Addr} (h : PkOf C l rf as pm a) : M a ∧ ∃ ws, H a = some (.lst ws) := by
  obtain ⟨i, h1, h2⟩ := h
  obtain ⟨ds, h3⟩ := peeks_own h1
  obtain ⟨q, ws, q2, _⟩ := own_at r h3 h2
  exact ⟨q, ws, q2⟩
/-- the callee's slots -/
theorem args_rep (r : RepLoc C.K C.Xs M C.σ H l) (ra : RepAs C M H vs as) (ea : argsOf l rf as 0 pm = some args) (np : ∀ i, refAt rf as pm = some i → i ∉ peeks l rf as 0 pm) :
    RepLoc C.K (XcOf C M l rf as pm) (McOf C l rf as pm) ((gather pm vs).map some) H args ∧ (∀ a, McOf C l rf as pm a → ∃ (i : Nat) (ds : List D), args[i]? = some (.own ds) ∧ (gather pm vs)[i]? = some (.ref a)) ∧
      (∀ (i : Nat) (ds : List D), args[i]? = some (.own ds) → rf = some i) ∧ (gather pm vs).length = pm.length := by
  have hmem : ∀ k ∈ pm, ∃ v, vs[k]? = some v := fun k hk => by
    obtain ⟨a, ha⟩ := argsOf_as ea k hk
    obtain ⟨v, hv, _⟩ := ra.get ha
    exact ⟨v, hv⟩
  obtain ⟨gl, gg⟩ := gather_get hmem
  have al := argsOf_len ea
  -- an argument: its written place, its value
  have get : ∀ (m : Nat) (s : Sl), args[m]? = some s → ∃ (k : Nat) (a : A) (v : V), pm[m]? = some k ∧ as[k]? = some a ∧ argOf l (rf == some m) a = some s ∧ (gather pm vs)[m]? = some v ∧ RepA C M H v a := fun m s e => by
    obtain ⟨k, a, h1, h2, h3⟩ := argsOf_get ea m s e
    obtain ⟨v, hv, rv⟩ := ra.get h2
    refine ⟨k, a, v, h1, h2, by simpa using h3, ?_, rv⟩
    rw [gg m k h1, hv]
  have sub : ∀ a, Fb (XcOf C M l rf as pm) (McOf C l rf as pm) a → Fb C.Xs M a := fun a z => z.elim (fun x => x.1) (fun m => .inr (m.own r))
  have ownA : ∀ (m : Nat) (ds : List D), args[m]? = some (.own ds) → rf = some m ∧ ∃ (k i : Nat), pm[m]? = some k ∧ as[k]? = some (.pos i) ∧ l[i]? = some (.own ds) ∧ refAt rf as pm = some i ∧ ∃ v, (gather pm vs)[m]? = some v ∧ C.σ[i]? = some (some v) := fun m ds e => by
    obtain ⟨k, a, v, h1, h2, h3, h4, h5⟩ := get m _ e
    cases a with
    | dat d =>
      unfold argOf at h3
      dsimp only at h3
      split at h3 <;> cases h3
    | pos i =>
      unfold argOf at h3
      dsimp only at h3
      split at h3 <;> first | cases h3 | skip
      rename_i e2 e1
      have er : rf = some m := by simpa using e2
      refine ⟨er, k, i, h1, h2, e1, ?_, v, h4, h5⟩
      unfold refAt
      rw [er]
      dsimp only
      rw [h1]
      dsimp only
      rw [h2]
  refine ⟨⟨by rw [List.length_map, gl, al], fun m d e => ?_, fun m ds e => ?_, fun m n a ds es e1 e2 _ _ => ?_, fun a z => ?_, fun a z => z.2.1⟩, fun a z => ?_, fun m ds e => (ownA m ds e).1, gl⟩
  · obtain ⟨k, a, v, h1, h2, h3, h4, h5⟩ := get m _ e
    refine ⟨v, by rw [List.getElem?_map, h4]; rfl, ?_⟩
    cases a with
    | dat d' =>
      unfold argOf at h3
      dsimp only at h3
      split at h3 <;> cases h3
      exact Rep.mono h5 sub
    | pos i =>
      unfold argOf at h3
      dsimp only at h3
      split at h3 <;> first | cases h3 | skip
      · rename_i e2 e1
        obtain ⟨w, q1, q2⟩ := r.val i _ e1
        have h5' : C.σ[i]? = some (some v) := h5
        rw [q1] at h5'
        have : w = v := by simpa using h5'
        subst this
        exact q2.mono sub
      · rename_i ds e1 e2
        obtain ⟨b, ws, q1, q2, q3, q4⟩ := r.own i _ e1
        have h5' : C.σ[i]? = some (some v) := h5
        rw [q1] at h5'
        have : v = .ref b := by simpa using h5'.symm
        subst this
        have hp : PkOf C l rf as pm b := ⟨i, peeks_in h1 h2 e1 (by simpa using e2), q1⟩
        rw [Rep]
        refine ⟨b, ws, rfl, .inl ⟨.inl q3, fun z => z.elim (fun x => x.2.2 hp) (fun m' => ?_)⟩, q4.mono sub⟩
        obtain ⟨i', ds', g1, g2, g3⟩ := m'
        have : i = i' := r.inj i i' b _ _ e1 g2 q1 g3
        subst this
        exact np i g1 (peeks_in h1 h2 e1 (by simpa using e2))
  · obtain ⟨er, k, i, h1, h2, h3, h4, v, h5, h6⟩ := ownA m ds e
    obtain ⟨b, ws, q1, q2, q3, q4⟩ := r.own i _ h3
    rw [h6] at q1
    have : v = .ref b := by simpa using q1
    subst this
    exact ⟨b, ws, by rw [List.getElem?_map, h5]; rfl, ⟨i, ds, h4, h3, h6⟩, q3, q4.mono sub⟩
  · have a1 := (ownA m ds e1).1
    have a2 := (ownA n es e2).1
    rw [a1] at a2
    simpa using a2
  · exact r.trk a (sub a z)
  · obtain ⟨i, ds, g1, g2, g3⟩ := z
    unfold refAt at g1
    cases rf with
    | none => cases g1
    | some j =>
      dsimp only at g1
      cases ej : pm[j]? with
      | none => rw [ej] at g1; cases g1
      | some k =>
        rw [ej] at g1
        dsimp only at g1
        cases ek : as[k]? with
        | none => rw [ek] at g1; cases g1
        | some b =>
          rw [ek] at g1
          cases b with
          | dat d => cases g1
          | pos i' =>
            cases g1
            have hj : j < args.length := by rw [al]; exact (List.getElem?_eq_some_iff.mp ej).1
            obtain ⟨s, hs⟩ : ∃ s, args[j]? = some s := ⟨_, List.getElem?_eq_getElem hj⟩
            obtain ⟨k', a', v, h1, h2, h3, h4, h5⟩ := get j _ hs
            rw [ej] at h1; cases h1
            rw [ek] at h2; cases h2
            unfold argOf at h3
            dsimp only at h3
            rw [g2] at h3
            simp only [beq_self_eq_true] at h3
            cases h3
            have h5' : C.σ[i]? = some (some v) := h5
            rw [g3] at h5'
            have : v = .ref a := by simpa using h5'.symm
            subst this
            exact ⟨j, ds, hs, h4⟩
end
end DL

set_option Elab.async false
set_option linter.all false
set_option maxRecDepth 100000
set_option maxHeartbeats 4000000
namespace DL
open PySem PySem.Spec PyProof.Rows L2

section
variable {C : Cf} {M M' : Ad} {H H' : Hp} {l l0 l1 : Loc} {rf : Option Nat} {as : List A} {pm : List Nat} {vs : List V} {args outs : List Sl} {s : Sl} {v : V}
/-- the slots behind the call, ahead of a demotion -/
theorem after_core (dem : Bool) (r : RepLoc C.K C.Xs M C.σ H l) (st : Step (McOf C l rf as pm) H M' H')
    (tr : ∀ a, XcOf C M l rf as pm a ∨ M' a → ∃ vs, H' a = some (.lst vs)) (dis : ∀ a, XcOf C M l rf as pm a → ¬ M' a) (np : ∀ i, refAt rf as pm = some i → i ∉ peeks l rf as 0 pm)
    (hl : l0.length = l.length)
    (h0 : ∀ k, (refAt rf as pm = some k ∧ (∃ ds, l[k]? = some (.own ds)) ∧ ∃ ds a ws, l0[k]? = some (.own ds) ∧ C.σ[k]? = some (some (.ref a)) ∧ M' a ∧ H' a = some (.lst ws) ∧ RepL C.K (Fb (XcOf C M l rf as pm) M') H' ws ds ∧ (dem = true ∨ peeks l rf as 0 pm = [] ∨ nolstL ds = true)) ∨
      (refAt rf as pm ≠ some k ∧ l0[k]? = l[k]?)) :
    ∃ Mn, Step M H Mn H' ∧ RepLoc C.K C.Xs Mn C.σ H' (if dem then demotes l0 (peeks l rf as 0 pm) else l0) ∧
      (∀ v d, (dem = true ∨ peeks l rf as 0 pm = [] ∨ nolst d = true) → Rep C.K (Fb (XcOf C M l rf as pm) M') H' v d → Rep C.K (Fb C.Xs Mn) H' v d) ∧
      (∀ a, M' a → Mn a) ∧ (∀ a, Mn a → (M a ∧ ¬ McOf C l rf as pm a) ∨ M' a) := by
  have pkM' : ∀ a, PkOf C l rf as pm a → ¬ M' a := fun a p m => by
    obtain ⟨hm, ws, hw⟩ := p.own r
    rcases st.grow a m with q | q
    · obtain ⟨i, ds, g1, g2, g3⟩ := q
      obtain ⟨j, g4, g5⟩ := p
      obtain ⟨es, g6⟩ := peeks_own g4
      have : i = j := r.inj i j a _ _ g2 g6 g3 g5
      subst this
      exact np i g1 g4
    · rw [hw] at q; cases q
  have mcM : ∀ a, McOf C l rf as pm a → M a := fun a m => m.own r
  refine ⟨fun a => ((M a ∧ ¬ McOf C l rf as pm a) ∨ M' a) ∧ ¬ (dem = true ∧ PkOf C l rf as pm a), ?_⟩
  have stp : Step M H (fun a => ((M a ∧ ¬ McOf C l rf as pm a) ∨ M' a) ∧ ¬ (dem = true ∧ PkOf C l rf as pm a)) H' := ⟨fun b u n e => st.ext b u (fun z => n (mcM b z)) e, st.non, fun b z => z.1.elim (fun q => .inl q.1) (fun m => (st.grow b m).imp (mcM b) id)⟩
  have trk : ∀ a, C.Xs a ∨ (((M a ∧ ¬ McOf C l rf as pm a) ∨ M' a) ∧ ¬ (dem = true ∧ PkOf C l rf as pm a)) → ∃ vs, H' a = some (.lst vs) := fun a z => by
    rcases z with x | ⟨⟨m, n⟩ | m, _⟩
    · obtain ⟨ws, e⟩ := r.trk a (.inl x)
      exact ⟨ws, st.ext a _ (fun q => r.dis a x (mcM a q)) e⟩
    · obtain ⟨ws, e⟩ := r.trk a (.inr m)
      exact ⟨ws, st.ext a _ n e⟩
    · exact tr a (.inr m)
  have conv : ∀ v d, (dem = true ∨ peeks l rf as 0 pm = [] ∨ nolst d = true) → Rep C.K (Fb (XcOf C M l rf as pm) M') H' v d → Rep C.K (Fb C.Xs (fun a => ((M a ∧ ¬ McOf C l rf as pm a) ∨ M' a) ∧ ¬ (dem = true ∧ PkOf C l rf as pm a))) H' v d := fun v d hd hr => by
    by_cases hn : nolst d = true
    · exact Rep.any trk d v hn hr
    · refine hr.mono fun a z => ?_
      have npk : ¬ (C.Xs a ∨ (M a ∧ ¬ McOf C l rf as pm a)) ∨ ¬ PkOf C l rf as pm a ∨ M' a := by
        by_cases hp : PkOf C l rf as pm a
        · rcases hd with hd | hd | hd
          · rcases z with x | ⟨_, n⟩
            · exact absurd (hp.own r).1 (r.dis a x)
            · exact absurd ⟨hd, hp⟩ n
          · obtain ⟨i, g, _⟩ := hp
            rw [hd] at g; cases g
          · exact absurd hd hn
        · exact .inr (.inl hp)
      rcases z with x | ⟨⟨m, n⟩ | m, _⟩
      · rcases npk with q | q | q
        · exact absurd (.inl x) q
        · exact .inl ⟨.inl x, fun z => r.dis a x (mcM a z), q⟩
        · exact .inr q
      · rcases npk with q | q | q
        · exact absurd (.inr ⟨m, n⟩) q
        · exact .inl ⟨.inr m, n, q⟩
        · exact .inr q
      · exact .inr m
  have convL : ∀ ds ws, (dem = true ∨ peeks l rf as 0 pm = [] ∨ nolstL ds = true) → RepL C.K (Fb (XcOf C M l rf as pm) M') H' ws ds → RepL C.K (Fb C.Xs (fun a => ((M a ∧ ¬ McOf C l rf as pm a) ∨ M' a) ∧ ¬ (dem = true ∧ PkOf C l rf as pm a))) H' ws ds := fun ds => by
    induction ds with
    | nil => intro ws _ h; rw [RepL] at h ⊢; exact h
    | cons d ds ih =>
      intro ws hd h
      rw [RepL] at h
      obtain ⟨w, rs, rfl, h1, h2⟩ := h
      refine RepL.cons (conv w d (hd.imp id (Or.imp id fun n => ?_)) h1) (ih rs (hd.imp id (Or.imp id fun n => ?_)) h2)
      · rw [nolstL, Bool.and_eq_true] at n; exact n.1
      · rw [nolstL, Bool.and_eq_true] at n; exact n.2
  -- the slots
  have len1 : (if dem then demotes l0 (peeks l rf as 0 pm) else l0).length = l.length := by
    cases dem with
    | true => rw [if_pos rfl, demotes_len, hl]
    | false => rw [if_neg Bool.false_ne_true, hl]
  have at1 : ∀ k, (if dem then demotes l0 (peeks l rf as 0 pm) else l0)[k]? = (match (l0[k]? : Option Sl) with
      | some (Sl.own ds) => if dem = true ∧ k ∈ peeks l rf as 0 pm then some (Sl.val (.lst ds)) else some (Sl.own ds)
      | o => o : Option Sl) := fun k => by
    cases dem with
    | true =>
      rw [if_pos rfl, demotes_get]
      cases l0[k]? with
      | none => rfl
      | some z => cases z <;> simp
    | false =>
      rw [if_neg Bool.false_ne_true]
      cases l0[k]? with
      | none => rfl
      | some z => cases z <;> simp
  -- an own slot of l1: its address
  have ownS : ∀ (k : Nat) (ds : List D), (if dem then demotes l0 (peeks l rf as 0 pm) else l0)[k]? = some (.own ds) → ¬ (dem = true ∧ k ∈ peeks l rf as 0 pm) ∧ ∃ es, l[k]? = some (.own es) := fun k ds e => by
    rw [at1] at e
    rcases h0 k with ⟨_, h2, ds', a, ws, h3, _⟩ | ⟨_, h2⟩
    · rw [h3] at e
      dsimp only at e
      split at e
      · cases e
      · rename_i hn; exact ⟨hn, h2⟩
    · rw [h2] at e
      cases e2 : l[k]? with
      | none => rw [e2] at e; cases e
      | some z =>
        rw [e2] at e
        cases z with
        | un => cases e
        | val d => cases e
        | own es =>
          dsimp only at e
          split at e
          · cases e
          · rename_i hn; exact ⟨hn, es, rfl⟩
  refine ⟨stp, ⟨by rw [len1]; exact r.len, fun k d e => ?_, fun k ds e => ?_, fun i j a ds es e1 e2 e3 e4 => ?_, trk, fun a x z => ?_⟩, conv, fun a m => ⟨.inr m, fun z => pkM' a z.2 m⟩, fun a z => z.1⟩
  · rw [at1] at e
    rcases h0 k with ⟨hr, _, ds', a, ws, h3, h4, h5, h6, h7, _⟩ | ⟨hr, h2⟩
    · rw [h3] at e
      dsimp only at e
      split at e
      · rename_i hn
        exact absurd hn.2 (np k hr)
      · cases e
    · rw [h2] at e
      cases e2 : l[k]? with
      | none => rw [e2] at e; cases e
      | some z =>
        rw [e2] at e
        cases z with
        | un => cases e
        | val d' =>
          cases e
          obtain ⟨w, g1, g2⟩ := r.val k _ e2
          exact ⟨w, g1, g2.step stp⟩
        | own es =>
          dsimp only at e
          split at e
          · rename_i hn
            cases e
            obtain ⟨b, ws, g1, g2, g3, g4⟩ := r.own k _ e2
            have hb : ¬ McOf C l rf as pm b := fun m => by
              obtain ⟨i', ds', q1, q2, q3⟩ := m
              have : k = i' := r.inj k i' b _ _ e2 q2 g1 q3
              subst this
              exact hr q1
            refine ⟨.ref b, g1, ?_⟩
            rw [Rep]
            exact ⟨b, ws, rfl, .inl ⟨.inl (st.ext b _ hb g3), fun z => z.elim (fun x => r.dis b x g2) (fun q => q.2 ⟨hn.1, k, hn.2, g1⟩)⟩, g4.step stp⟩
          · cases e
  · have hk := (ownS k ds e).1
    rw [at1] at e
    rcases h0 k with ⟨hr, _, ds', a, ws, h3, h4, h5, h6, h7, h8⟩ | ⟨hr, h2⟩
    · rw [h3] at e
      dsimp only at e
      rw [if_neg hk] at e
      cases e
      exact ⟨a, ws, h4, ⟨.inr h5, fun z => pkM' a z.2 h5⟩, h6, convL _ _ h8 h7⟩
    · rw [h2] at e
      cases e2 : l[k]? with
      | none => rw [e2] at e; cases e
      | some z =>
        rw [e2] at e
        cases z with
        | un => cases e
        | val d' => cases e
        | own es =>
          dsimp only at e
          rw [if_neg hk] at e
          cases e
          obtain ⟨b, ws, g1, g2, g3, g4⟩ := r.own k _ e2
          have hb : ¬ McOf C l rf as pm b := fun m => by
            obtain ⟨i', ds', q1, q2, q3⟩ := m
            have : k = i' := r.inj k i' b _ _ e2 q2 g1 q3
            subst this
            exact hr q1
          refine ⟨b, ws, g1, ⟨.inl ⟨g2, hb⟩, fun z => ?_⟩, st.ext b _ hb g3, g4.step stp⟩
          obtain ⟨hd, i', q1, q2⟩ := z
          obtain ⟨es', q3⟩ := peeks_own q1
          have : k = i' := r.inj k i' b _ _ e2 q3 g1 q2
          subst this
          exact hk ⟨hd, q1⟩
  · obtain ⟨_, ds', g1⟩ := ownS i ds e1
    obtain ⟨_, es', g2⟩ := ownS j es e2
    exact r.inj i j a _ _ g1 g2 e3 e4
  · rcases z.1 with ⟨m, _⟩ | m
    · exact r.dis a x m
    · rcases st.grow a m with q | q
      · exact r.dis a x (mcM a q)
      · obtain ⟨ws, e⟩ := r.trk a (.inl x)
        rw [q] at e; cases e
end
end DL

set_option Elab.async false
set_option linter.all false
set_option maxRecDepth 100000
set_option maxHeartbeats 4000000
namespace DL
open PySem PySem.Spec PyProof.Rows L2

theorem RepLoc.keep {K : PySem.W.Frag} {X M : Ad} {σ : L2.St} {H H' : Hp} {l : Loc} (r : RepLoc K X M σ H l) (k : ∀ b u, H b = some u → H' b = some u) : RepLoc K X M σ H' l where
  len := r.len
  val := fun i d e => let ⟨v, h1, h2⟩ := r.val i d e; ⟨v, h1, h2.move (fun b u _ q => k b u q) (fun b z => .inl z)⟩
  own := fun i ds e => let ⟨a, vs, h1, h2, h3, h4⟩ := r.own i ds e; ⟨a, vs, h1, h2, k a _ h3, h4.move (fun b u _ q => k b u q) (fun b z => .inl z)⟩
  inj := r.inj
  trk := fun a z => let ⟨vs, e⟩ := r.trk a z; ⟨vs, k a _ e⟩
  dis := r.dis
def callRest (Γ : Gam) (f : Nat) (rf : Option Nat) (pm : List Nat) (r : List A × Loc) : R (Sl × Loc) := match argsOf r.2 rf r.1 0 pm with
    | none => .bad
    | some args => match Γ f args with
      | .ok (s, outs) => (match after r.2 rf r.1 pm s outs with
        | some l1 => .ok (s, l1)
        | none => .bad)
      | .exc x _ => if rf.isNone then .exc x r.2 else .bad
      | .bad => .bad
theorem evX_call (Γ : Gam) (f : Nat) (rf : Option Nat) (pm : List Nat) (es : List E) (l : Loc) : evX Γ (.call f rf pm es) l = (evAs Γ es l).bind (callRest Γ f rf pm) := by
  rw [evX.eq_def]; rfl
section
variable {C : Cf} {M : Ad} {H : Hp} {l : Loc} {rf : Option Nat} {as : List A} {pm : List Nat} {vs : List V} {Γ : Gam} {f : Nat} {Q : VK}
theorem call_rep (r : RepLoc C.K C.Xs M C.σ H l) (ra : RepAs C M H vs as) (g : Po C M H (fun s l' M' H' => ∀ v, RepR C.K C.Xs M' C.σ l' H' v s → Q v H') (callRest Γ f rf pm (as, l))) :
    spOf C.K C.xi pm.length rf (Γ f) (gather pm vs) H Q (fun cls d H' => C.W cls d C.σ H') := by
  unfold callRest at g
  dsimp only at g
  cases ea : argsOf l rf as 0 pm with
  | none => rw [ea] at g; exact g.elim
  | some args =>
    rw [ea] at g
    dsimp only at g
    cases eg : Γ f args with
    | bad => rw [eg] at g; exact g.elim
    | exc x l' =>
      rw [eg] at g
      dsimp only at g
      cases rf with
      | some j => exact g.elim
      | none =>
        have np : ∀ i, refAt none as pm = some i → i ∉ peeks l none as 0 pm := fun i h => nomatch h
        obtain ⟨h1, h2, h3, h4⟩ := args_rep r ra ea np
        refine ⟨_, _, args, h4, h1, h2, h3, ?_⟩
        rw [eg]
        intro cls d M' H' st hx
        have k : ∀ b u, H b = some u → H' b = some u := fun b u e => st.ext b u (fun z => by obtain ⟨_, _, q, _⟩ := z; cases q) e
        exact g cls d M H' ⟨fun b u _ e => k b u e, st.non, fun b z => .inl z⟩ (r.keep k) hx
    | ok o =>
      obtain ⟨s, outs⟩ := o
      rw [eg] at g
      dsimp only at g
      cases ef : after l rf as pm s outs with
      | none => rw [ef] at g; exact g.elim
      | some l1 =>
        rw [ef] at g
        have np : ∀ i, refAt rf as pm = some i → i ∉ peeks l rf as 0 pm := fun i h => by
          unfold after at ef
          cases rf with
          | none => cases h
          | some j =>
            rw [h] at ef
            (try dsimp only at ef)
            split at ef
            · rename_i ds e1
              (try dsimp only at ef)
              split at ef
              · cases ef
              · rename_i hn
                intro z
                exact hn (by simpa using z)
            · cases ef
        obtain ⟨h1, h2, h3, h4⟩ := args_rep r ra ea np
        refine ⟨_, _, args, h4, h1, h2, h3, ?_⟩
        rw [eg]
        intro v M' H' st ro rr
        dsimp only at ro rr
        -- the slots behind it
        obtain ⟨dem, l0, hl1, hl0, hd, h0⟩ : ∃ (dem : Bool) (l0 : Loc), l1 = (if dem then demotes l0 (peeks l rf as 0 pm) else l0) ∧ l0.length = l.length ∧ (dem = true ∨ peeks l rf as 0 pm = [] ∨ nolst s.d = true) ∧
            ∀ k, (refAt rf as pm = some k ∧ (∃ ds, l[k]? = some (.own ds)) ∧ ∃ ds a ws, l0[k]? = some (.own ds) ∧ C.σ[k]? = some (some (.ref a)) ∧ M' a ∧ H' a = some (.lst ws) ∧ RepL C.K (Fb (XcOf C M l rf as pm) M') H' ws ds ∧ (dem = true ∨ peeks l rf as 0 pm = [] ∨ nolstL ds = true)) ∨
              (refAt rf as pm ≠ some k ∧ l0[k]? = l[k]?) := by
          unfold after at ef
          cases rf with
          | none =>
            (try dsimp only at ef)
            cases ef
            refine ⟨!((peeks l none as 0 pm).isEmpty || nolst s.d), l, ?_, rfl, ?_, fun k => .inr ⟨(fun z => by cases z), rfl⟩⟩
            · cases ((peeks l none as 0 pm).isEmpty || nolst s.d) <;> rfl
            · cases e1 : (peeks l none as 0 pm).isEmpty with
              | true => exact .inr (.inl (by simpa using e1))
              | false =>
                cases e2 : nolst s.d with
                | true => exact .inr (.inr rfl)
                | false => exact .inl rfl
          | some j =>
            cases hr : refAt (some j) as pm with
            | none => rw [hr] at ef; cases ef
            | some i =>
              rw [hr] at ef
              (try dsimp only at ef)
              split at ef
              · rename_i ds e1
                (try dsimp only at ef)
                split at ef
                · cases ef
                · cases ef
                  have hi : ∃ es a, l[i]? = some (.own es) ∧ C.σ[i]? = some (some (.ref a)) ∧ (gather pm vs)[j]? = some (.ref a) := by
                    obtain ⟨b, ws, q1, q2, q3, q4⟩ := ro.own j ds e1
                    -- the argument at j
                    unfold refAt at hr
                    dsimp only at hr
                    cases ej : pm[j]? with
                    | none => rw [ej] at hr; cases hr
                    | some k =>
                      rw [ej] at hr
                      dsimp only at hr
                      cases ek : as[k]? with
                      | none => rw [ek] at hr; cases hr
                      | some a =>
                        rw [ek] at hr
                        cases a with
                        | dat d => cases hr
                        | pos i' =>
                          cases hr
                          have hj : j < args.length := by rw [argsOf_len ea]; exact (List.getElem?_eq_some_iff.mp ej).1
                          obtain ⟨k', a', g1, g2, g3⟩ := argsOf_get ea j _ (List.getElem?_eq_getElem hj)
                          rw [ej] at g1; cases g1
                          rw [ek] at g2; cases g2
                          obtain ⟨es, e2⟩ : ∃ es, l[i]? = some (.own es) := by
                            unfold argOf at g3
                            rw [show (some j == some (0 + j)) = true by simp] at g3
                            dsimp only at g3
                            cases e2 : l[i]? with
                            | none => rw [e2] at g3; cases g3
                            | some x =>
                              rw [e2] at g3
                              cases x with
                              | un => cases g3
                              | val d => cases g3
                              | own es => exact ⟨es, rfl⟩
                          obtain ⟨w, hw, rw'⟩ := ra.get ek
                          obtain ⟨b2, ws2, p1, p2, p3, p4⟩ := r.own i _ e2
                          have : w = .ref b2 := by
                            have rw2 : C.σ[i]? = some (some w) := rw'
                            rw [p1] at rw2
                            simpa using rw2.symm
                          subst this
                          refine ⟨es, b2, e2, p1, ?_⟩
                          have hmem : ∀ k ∈ pm, ∃ v, vs[k]? = some v := fun k hk => by
                            obtain ⟨a, ha⟩ := argsOf_as ea k hk
                            obtain ⟨v, hv, _⟩ := ra.get ha
                            exact ⟨v, hv⟩
                          rw [(gather_get hmem).2 j k ej, hw]
                  obtain ⟨es, a, g1, g2, g3⟩ := hi
                  have il : i < l.length := (List.getElem?_eq_some_iff.mp g1).1
                  refine ⟨!((peeks l (some j) as 0 pm).isEmpty || (nolst s.d && nolstL ds)), l.set i (.own ds), ?_, by rw [List.length_set], ?_, fun k => ?_⟩
                  · cases ((peeks l (some j) as 0 pm).isEmpty || (nolst s.d && nolstL ds)) <;> rfl
                  · cases e3 : (peeks l (some j) as 0 pm).isEmpty with
                    | true => exact .inr (.inl (by simpa using e3))
                    | false =>
                      cases e4 : nolst s.d with
                      | true => exact .inr (.inr rfl)
                      | false => exact .inl rfl
                  · by_cases hk : k = i
                    · subst hk
                      obtain ⟨b, ws, q1, q2, q3, q4⟩ := ro.own j ds e1
                      have : b = a := by
                        rw [List.getElem?_map, g3] at q1
                        simpa using q1.symm
                      subst this
                      refine .inl ⟨rfl, ⟨es, g1⟩, ds, b, ws, List.getElem?_set_self il, g2, q2, q3, q4, ?_⟩
                      cases e3 : (peeks l (some j) as 0 pm).isEmpty with
                      | true => exact .inr (.inl (by simpa using e3))
                      | false =>
                        cases e4 : nolst s.d with
                        | true =>
                          cases e5 : nolstL ds with
                          | true => exact .inr (.inr rfl)
                          | false => exact .inl rfl
                        | false => exact .inl rfl
                    · exact .inr ⟨fun z => hk (Option.some.inj z).symm, List.getElem?_set_ne (Ne.symm hk)⟩
              · cases ef
        obtain ⟨Mn, s1, s2, s3, s4, s5⟩ := after_core dem r st (fun a z => ro.trk a z) ro.dis np hl0 h0
        rw [← hl1] at s2
        refine g Mn H' s1 s2 v ?_
        cases s with
        | un => exact rr.elim
        | val d => exact s3 v d hd rr
        | own ds =>
          obtain ⟨p, ws, rfl, p1, p2, p3, p4⟩ := rr
          refine ⟨p, ws, rfl, s4 p p1, p2, ?_, fun i es e z => ?_⟩
          · have dd : dem = true ∨ peeks l rf as 0 pm = [] := by
              rcases hd with hd | hd | hd
              · exact .inl hd
              · exact .inr hd
              · have : nolst (.lst ds) = true := hd
                rw [nolst] at this; cases this
            have lst : ∀ (ds : List D) (ws : List V), RepL C.K (Fb (XcOf C M l rf as pm) M') H' ws ds → RepL C.K (Fb C.Xs Mn) H' ws ds := fun ds => by
              induction ds with
              | nil => intro ws h; rw [RepL] at h ⊢; exact h
              | cons d ds ih =>
                intro ws h
                rw [RepL] at h
                obtain ⟨w, rs, rfl, h1, h2⟩ := h
                exact RepL.cons (s3 w d (dd.imp id .inl) h1) (ih rs h2)
            exact lst ds ws p3
          · -- p is none of the slots'
            have hM := s2.own i es e
            obtain ⟨b, ws', b1, b2, b3, b4⟩ := hM
            rw [z] at b1
            have : p = b := by simpa using b1
            subst this
            -- the slot in l0
            have at0 : l0[i]? = some (.own es) := by
              rw [hl1] at e
              cases dem with
              | false => exact e
              | true =>
                rw [if_pos rfl, demotes_get] at e
                cases e2 : l0[i]? with
                | none => rw [e2] at e; cases e
                | some x =>
                  rw [e2] at e
                  cases x with
                  | un => cases e
                  | val d => cases e
                  | own es' =>
                    dsimp only at e
                    split at e
                    · cases e
                    · exact e
            rcases h0 i with ⟨hr, _, ds', a, ws2, k1, k2, k3, k4, k5, _⟩ | ⟨hr, hk⟩
            · -- the list that was handed on
              rw [z] at k2
              have : p = a := by simpa using k2
              subst this
              -- it stands among the outs
              cases rf with
              | none => cases hr
              | some j =>
                unfold after at ef
                rw [hr] at ef
                (try dsimp only at ef)
                split at ef
                · rename_i ds3 e3
                  obtain ⟨b, ws3, q1, q2, q3, q4⟩ := ro.own j ds3 e3
                  have hp := p4 j ds3 e3
                  refine hp ?_
                  rw [q1]
                  -- b = p
                  have := h2 p (show McOf C l (some j) as pm p from by
                    obtain ⟨es', g1⟩ : ∃ es', l[i]? = some (.own es') := by
                      rcases h0 i with ⟨_, hh, _⟩ | ⟨hh, _⟩
                      · exact hh
                      · exact absurd hr hh
                    exact ⟨i, es', hr, g1, z⟩)
                  obtain ⟨m, ds4, g1, g2⟩ := this
                  have hm := h3 m ds4 g1
                  cases hm
                  rw [List.getElem?_map, g2] at q1
                  simpa using q1.symm
                · cases ef
            · rw [at0] at hk
              obtain ⟨b, ws5, b5, b6, b7, b8⟩ := r.own i es hk.symm
              rw [z] at b5
              have : p = b := by simpa using b5
              subst this
              rcases st.grow p p1 with q | q
              · obtain ⟨i', ds', g1, g2, g3⟩ := q
                have : i = i' := r.inj i i' p _ _ hk.symm g2 z g3
                subst this
                exact hr g1
              · rw [q] at b7; cases b7
end
end DL

set_option Elab.async false
set_option linter.all false
set_option maxRecDepth 100000
set_option maxHeartbeats 4000000
namespace DL
open PySem PySem.Spec PyProof.Rows L2

theorem evAs_nil (Γ : Gam) (l : Loc) : evAs Γ [] l = .ok ([], l) := by rw [evAs.eq_def]
theorem evAs_append (Γ : Gam) : ∀ (xs ys : List E) (l : Loc), evAs Γ (xs ++ ys) l = (evAs Γ xs l).bind fun r => (evAs Γ ys r.2).bind fun r2 => .ok (r.1 ++ r2.1, r2.2)
  | [], ys, l => by
    rw [evAs_nil, List.nil_append]
    simp only [R.bind]
    cases evAs Γ ys l <;> rfl
  | x :: xs, ys, l => by
    rw [List.cons_append, evAs_cons, evAs_cons]
    cases evA1 Γ x l with
    | bad => rfl
    | exc x l => rfl
    | ok r =>
      simp only [R.bind]
      rw [evAs_append Γ xs ys r.2]
      cases evAs Γ xs r.2 with
      | bad => rfl
      | exc x l => rfl
      | ok r2 =>
        simp only [R.bind]
        cases evAs Γ ys r2.2 <;> rfl
theorem RepAs.append {C : Cf} {M : Ad} {H : Hp} : ∀ {as bs : List A} {vs ws : List V}, RepAs C M H vs as → RepAs C M H ws bs → RepAs C M H (vs ++ ws) (as ++ bs)
  | [], bs, [], ws, _, h => h
  | a :: as, bs, v :: vs, ws, h, g => ⟨h.1, RepAs.append h.2 g⟩
  | [], _, _ :: _, _, h, _ => h.elim
  | _ :: _, _, [], _, h, _ => h.elim

/-- a def as a caller sees it -/
structure Callee (X : Cx) (xi : XI) (k : Nat) (x : Str) (rf : Option Nat) (F : List Sl → R (Sl × List Sl)) (shs : List Shape) : Prop where
  ex : ∃ (f : Addr) (fd : FuncData) (ps : List Str), X.mg x = some (.ref f) ∧ PySem.W.keepIn X.K (.ref f) = true ∧ FnOk X.prog X.w X.K X.mg X.base (L2.CX X.prog X.w) k f fd ps (spOf X.K xi ps.length rf F) ∧
    ∀ sh ∈ shs, ShapeOk X.K fd ps sh ∧ sh.pm.length = ps.length
section
variable {X : Cx} {W : WX} {xi : XI} {Γ : Gam} {k f : Nat} {x : Str} {rf : Option Nat} {shs : List Shape} {sh : Shape} {p pos : Pos}
theorem pd_call {es : List Expr} {kws : List Keyword} {es' ks' : List E} (cl : Callee X xi k x rf (Γ f) shs) (hs : sh ∈ shs) (hr : Room k X.A) (tk : Takes X W) (hg : Gl X x) (hdb : (x == ("__debug__" : Str)) = false)
    (ha : PLA X W xi es (evAs Γ es')) (hk : PKA X W xi kws (evAs Γ ks')) (hst : es.all notStar = true) (hnm : kws.all (fun k => k.arg.isSome) = true) (hks : kws.filterMap (·.arg) = sh.ks) (hn : sh.n = es.length) (hl : es'.length = es.length) (hl2 : ks'.length = sh.ks.length) :
    PD X W xi (.Call (.Name x p) es kws pos) (evX Γ (.call f rf sh.pm (es' ++ ks'))) := by
  obtain ⟨a, fd, ps, hm, hkp, F, hsh⟩ := cl.ex
  obtain ⟨hb, hlen⟩ := hsh sh hs
  rw [← hlen] at F
  -- the lengths of what is evaluated
  have lenE : ∀ (xs : List E) (l : Loc) r, evAs Γ xs l = .ok r → r.1.length = xs.length := by
    intro xs
    induction xs with
    | nil => intro l r h; rw [evAs_nil] at h; cases h; rfl
    | cons e xs ih =>
      intro l r h
      rw [evAs_cons] at h
      cases e1 : evA1 Γ e l with
      | bad => rw [e1] at h; cases h
      | exc x l => rw [e1] at h; cases h
      | ok r1 =>
        rw [e1] at h
        simp only [R.bind] at h
        cases e2 : evAs Γ xs r1.2 with
        | bad => rw [e2] at h; cases h
        | exc x l => rw [e2] at h; cases h
        | ok r2 =>
          rw [e2] at h
          cases h
          show (r1.1 :: r2.1).length = _
          rw [List.length_cons, List.length_cons, ih _ _ e2]
  have e0 : ∀ l, evX Γ (.call f rf sh.pm (es' ++ ks')) l = (evAs Γ es' l).bind fun r => (evAs Γ ks' r.2).bind fun r2 => callRest Γ f rf sh.pm (r.1 ++ r2.1, r2.2) := fun l => by
    rw [evX_call, evAs_append]
    cases evAs Γ es' l with
    | bad => rfl
    | exc x l => rfl
    | ok r =>
      simp only [R.bind]
      cases evAs Γ ks' r.2 <;> rfl
  obtain ⟨t, ht, q⟩ := ha.ex
  obtain ⟨u, hu, o⟩ := hk.ex
  cases es with
  | nil =>
    have n0 : es' = [] := List.eq_nil_of_length_eq_zero hl
    subst n0
    cases kws with
    | nil =>
      have k0 : sh.ks = [] := hks.symm
      have k1 : ks' = [] := List.eq_nil_of_length_eq_zero (by rw [hl2, k0]; rfl)
      subst k1
      refine ⟨_, pe_call00 F hr hg hm hkp hb tk hn k0 hdb, fun Xs σ H l M Q rl g => ?_⟩
      rw [e0, evAs_nil] at g
      simp only [R.bind, evAs_nil] at g
      refine ⟨by rw [hn, k0]; rfl, ?_⟩
      exact call_rep (C := ⟨X.K, Xs, W, xi, σ⟩) (as := []) (vs := []) rl trivial g
    | cons kw kws =>
      refine ⟨_, pe_callK0 F hr hg hm hkp hb tk hu hn hnm hks hdb, fun Xs σ H l M Q rl g => ?_⟩
      rw [e0, evAs_nil] at g
      dsimp only [R.bind] at g
      cases e2 : evAs Γ ks' l with
      | bad => rw [e2] at g; exact g.elim
      | exc x l1 =>
        rw [e2] at g
        refine o Xs σ H l M _ rl ?_
        rw [e2]; exact g
      | ok r2 =>
        have ll := lenE _ _ _ e2
        refine o Xs σ H l M _ rl ?_
        rw [e2] at g ⊢
        dsimp only [R.bind] at g
        intro M1 H1 st1 rl1 vs rv
        refine ⟨by rw [rv.length, ll, hl2, hn]; simp, ?_⟩
        exact call_rep (C := ⟨X.K, Xs, W, xi, σ⟩) rl1 rv (g.shift st1)
  | cons e es =>
    cases kws with
    | nil =>
      have k0 : sh.ks = [] := hks.symm
      have k1 : ks' = [] := List.eq_nil_of_length_eq_zero (by rw [hl2, k0]; rfl)
      subst k1
      refine ⟨_, pe_callP F hr hg hm hkp hb tk ht hst k0 hdb, fun Xs σ H l M Q rl g => ?_⟩
      rw [e0] at g
      cases e2 : evAs Γ es' l with
      | bad => rw [e2] at g; exact g.elim
      | exc x l1 =>
        rw [e2] at g
        refine q Xs σ H l M _ rl ?_
        rw [e2]; exact g
      | ok r2 =>
        have ll := lenE _ _ _ e2
        refine q Xs σ H l M _ rl ?_
        rw [e2] at g ⊢
        dsimp only [R.bind] at g
        rw [evAs_nil] at g
        dsimp only at g
        rw [List.append_nil] at g
        intro M1 H1 st1 rl1 vs rv
        refine ⟨by rw [rv.length, ll, hl, hn, k0]; rfl, ?_⟩
        exact call_rep (C := ⟨X.K, Xs, W, xi, σ⟩) rl1 rv (Po.shift (show Po _ _ _ _ (callRest Γ f rf sh.pm (r2.1, r2.2)) from g) st1)
    | cons kw kws =>
      refine ⟨_, pe_callPK F hr hg hm hkp hb tk ht hu hst hnm hks hdb, fun Xs σ H l M Q rl g => ?_⟩
      rw [e0] at g
      cases e2 : evAs Γ es' l with
      | bad => rw [e2] at g; exact g.elim
      | exc x l1 =>
        rw [e2] at g
        refine q Xs σ H l M _ rl ?_
        rw [e2]; exact g
      | ok r2 =>
        have ll := lenE _ _ _ e2
        refine q Xs σ H l M _ rl ?_
        rw [e2] at g ⊢
        dsimp only [R.bind] at g
        intro M1 H1 st1 rl1 vs rv
        cases e3 : evAs Γ ks' r2.2 with
        | bad => rw [e3] at g; exact g.elim
        | exc x l1 =>
          rw [e3] at g
          refine o Xs σ H1 r2.2 M1 _ rl1 ?_
          rw [e3]
          exact Po.shift (r := .exc x l1) g st1
        | ok r3 =>
          have ll3 := lenE _ _ _ e3
          refine o Xs σ H1 r2.2 M1 _ rl1 ?_
          rw [e3] at g ⊢
          dsimp only [R.bind] at g
          intro M2 H2 st2 rl2 zs rz
          have rv2 := rv.step st2
          refine ⟨by rw [rv.length, ll, hl, hn], by rw [List.length_append, rv.length, rz.length, ll, ll3, hl, hl2, hn], ?_⟩
          exact call_rep (C := ⟨X.K, Xs, W, xi, σ⟩) rl2 (rv2.append rz) (g.shift (st1.trans st2))
end
end DL

set_option Elab.async false
set_option linter.all false
set_option maxRecDepth 100000
set_option maxHeartbeats 4000000
namespace DL
open PySem PySem.Spec PyProof.Rows L2

section
variable {X : Cx} {W : WX} {xi : XI} {Γ : Gam}
theorem RepR.pkd {K : PySem.W.Frag} {Xs M : Ad} {σ : L2.St} {l : Loc} {H : Hp} {v : V} {s : Sl} (h : RepR K Xs M σ l H v s) : Pk K (Fb Xs M) H v s.d := by
  cases s with
  | un => exact h.elim
  | val d => exact Rep.pk h
  | own ds =>
    obtain ⟨a, vs, rfl, h1, h2, h3, _⟩ := h
    exact ⟨a, vs, rfl, .inl (.inl h2), h3⟩
theorem chain_core {a b c : Expr} {a' b' c' : E} {p q : Prim} (ha : PD X W xi a (evX Γ a')) (hb : PD X W xi b (evX Γ b')) (hc : PD X W xi c (evX Γ c')) :
    ∃ ta tb tc, PE X a ta ∧ PE X b tb ∧ PE X c tc ∧ ∀ (Xs : Ad) (σ : L2.St) (H : Hp) (l : Loc) (M : Ad) (Q : VK), RepLoc X.K Xs M σ H l →
      Po ⟨X.K, Xs, W, xi, σ⟩ M H (fun s l' M' H' => ∀ v, RepR X.K Xs M' σ l' H' v s → Q v H') (evX Γ (.chain p q a' b' c') l) → tChain (RB X.K p) (RB X.K q) ta tb tc σ H Q := by
  obtain ⟨ta, hta, qa⟩ := ha.ex
  obtain ⟨tb, htb, qb⟩ := hb.ex
  obtain ⟨tc, htc, qc⟩ := hc.ex
  refine ⟨ta, tb, tc, hta, htb, htc, fun Xs σ H l M Q r g => ?_⟩
  rw [evX.eq_def] at g
  dsimp only at g
  refine qa Xs σ H l M _ r (g.bind.imp fun s1 l1 M1 H1 st1 rl1 g1 v rv => ?_)
  obtain ⟨M1', hm1, rl1', rv'⟩ := RepR.frozen rl1 rv
  refine qb Xs σ H1 l1 M1' _ rl1' ((g1.shift (Step.refl.less hm1)).bind.imp fun s2 l2 M2 H2 st2 rl2 g2 w rw => ?_)
  obtain ⟨M2', hm2, rl2', rw'⟩ := RepR.frozen rl2 rw
  have rv2 : Rep X.K (Fb Xs M2') H2 v s1.d := Rep.step (st2.less hm2) rv'
  have g3 := g2.shift (Step.refl.less hm2)
  dsimp only at g3
  cases e1 : primD p [s1.d, s2.d] with
  | none => rw [e1] at g3; exact g3.elim
  | some z =>
    rw [e1] at g3
    refine ⟨Fb Xs M2', s1.d, s2.d, z, rl2'.tr (C := ⟨X.K, Xs, W, xi, σ⟩), rv2.pk, rw'.pk, e1, ?_⟩
    split at g3
    · rename_i e2
      cases e2
      intro v3 H3 hH3 r3
      have e3 : v3 = .bl true := by simpa [Rep] using r3
      subst e3
      refine ⟨true, rfl, ?_⟩
      rw [if_pos rfl]
      -- the heap behind the first comparison
      have hst : Step M2' H2 M2' H3 ∧ RepLoc X.K Xs M2' σ H3 l2 := by
        rcases hH3 with rfl | ⟨pp, o, n, rfl⟩
        · exact ⟨Step.refl, rl2'⟩
        · exact ⟨Step.new n, rl2'.new n⟩
      refine qc Xs σ H3 l2 M2' _ hst.2 ((g3.shift hst.1).bind.imp fun s4 l4 M4 H4 st4 rl4 g4 u ru => ?_)
      obtain ⟨M4', hm4, rl4', ru'⟩ := RepR.frozen rl4 ru
      have g5 := g4.shift (Step.refl.less hm4)
      dsimp only at g5
      cases e4 : primD q [s2.d, s4.d] with
      | none => rw [e4] at g5; exact g5.elim
      | some z2 =>
        rw [e4] at g5
        exact ⟨Fb Xs M4', s2.d, s4.d, z2, rl4'.tr (C := ⟨X.K, Xs, W, xi, σ⟩), (Rep.step ((hst.1.trans st4).less hm4) rw').pk, ru'.pk, e4, fin_of (C := ⟨X.K, Xs, W, xi, σ⟩) rl4' g5 fun z => primD_un (e4.trans (congrArg some z))⟩
    · rename_i e2
      cases e2
      intro v3 H3 hH3 r3
      have e3 : v3 = .bl false := by simpa [Rep] using r3
      subst e3
      refine ⟨false, rfl, ?_⟩
      rw [if_neg Bool.false_ne_true]
      have hst : Step M2' H2 M2' H3 ∧ RepLoc X.K Xs M2' σ H3 l2 := by
        rcases hH3 with rfl | ⟨pp, o, n, rfl⟩
        · exact ⟨Step.refl, rl2'⟩
        · exact ⟨Step.new n, rl2'.new n⟩
      exact g3 M2' H3 hst.1 hst.2 _ (RepR.ofVal (Rep.bl _))
    · exact g3.elim
theorem pd_chain {a b c : Expr} {a' b' c' : E} {p q : Prim} {op op' : CmpOp} {pos : Pos} (ho : OpR X (compareOp op) (RB X.K p)) (ho' : OpR X (compareOp op') (RB X.K q)) (ha : PD X W xi a (evX Γ a')) (hb : PD X W xi b (evX Γ b')) (hc : PD X W xi c (evX Γ c'))
    (hm : lastMarks [op, op'] [b, c] = false) : PD X W xi (.Compare a [op, op'] [b, c] pos) (evX Γ (.chain p q a' b' c')) := by
  obtain ⟨ta, tb, tc, h1, h2, h3, g⟩ := chain_core (p := p) (q := q) ha hb hc
  exact ⟨_, pe_chain ho ho' h1 h2 h3 hm, g⟩
theorem ptd_chain {a b c : Expr} {a' b' c' : E} {p q : Prim} {op op' : CmpOp} {pos : Pos} (ho : OpR X (compareOp op) (RB X.K p)) (ho' : OpR X (compareOp op') (RB X.K q)) (ha : PD X W xi a (evX Γ a')) (hb : PD X W xi b (evX Γ b')) (hc : PD X W xi c (evX Γ c'))
    (hm : lastMarks [op, op'] [b, c] = false) (hq : ∀ ds s, primD q ds = some s → ∃ b, s = .val (.bl b)) : PTD X W xi (.Compare a [op, op'] [b, c] pos) (evT Γ (.chain p q a' b' c')) := by
  obtain ⟨ta, tb, tc, h1, h2, h3, g⟩ := chain_core (p := p) (q := q) ha hb hc
  refine ⟨_, pt_chain ho ho' h1 h2 h3 hm, fun Xs σ H l M Q r k => g Xs σ H l M _ r ?_⟩
  rw [evT.eq_def] at k
  rw [evX.eq_def]
  dsimp only at k ⊢
  cases e1 : evX Γ a' l with
  | bad => rw [e1] at k; exact k.elim
  | exc x l1 => rw [e1] at k; exact k
  | ok r1 =>
    rw [e1] at k
    dsimp only [R.bind] at k ⊢
    cases e2 : evX Γ b' r1.2 with
    | bad => rw [e2] at k; exact k.elim
    | exc x l1 => rw [e2] at k; exact k
    | ok r2 =>
      rw [e2] at k
      dsimp only at k ⊢
      split at k
      · cases e3 : evX Γ c' r2.2 with
        | bad => rw [e3] at k; exact k.elim
        | exc x l1 => rw [e3] at k; exact k
        | ok r3 =>
          rw [e3] at k
          dsimp only at k ⊢
          cases e4 : primD q [r2.1.d, r3.1.d] with
          | none => rw [e4] at k; exact k.elim
          | some z =>
            rw [e4] at k
            obtain ⟨b, rfl⟩ := hq _ _ e4
            intro M1 H1 st1 rl1 v rv
            have e : v = .bl b := by simpa [RepR, Rep] using rv
            subst e
            exact ⟨b, rfl, k M1 H1 st1 rl1⟩
      · intro M1 H1 st1 rl1 v rv
        have e : v = .bl false := by simpa [RepR, Rep] using rv
        subst e
        exact ⟨false, rfl, k M1 H1 st1 rl1⟩
      · exact k.elim
end

/-! ## the translation -/
structure FnI where
  ix : Nat
  rf : Option Nat
  sh : List Shape
structure TC where
  N : List Str
  names : List (Str × NameKind)
  fn : Str → Option FnI
  cn : Str → Option D
  bl : List Str
def opP : Operator → Option Prim
  | .Add => some .add | .Sub => some .sub | .Mult => some .mul | .FloorDiv => some .fdiv | .Mod => some .mod | .Pow => some .pow | _ => none
def cmpP : CmpOp → Option Prim
  | .Eq => some .eq | .NotEq => some .ne | .Lt => some .lt | .LtE => some .le | .Gt => some .gt | .GtE => some .ge | .Is => some .iz | .IsNot => some .izn | .In => some .isin | .NotIn => some .notin
def visB (T : TC) (x : Str) : Bool := match T.names.lookup x with
  | some .local => true
  | some .cell => true
  | some .free => true
  | _ => false
def glB (T : TC) (x : Str) : Bool := match T.names.lookup x with
  | some .globalImplicit => true
  | _ => false
/-- a built-in's name, used as such -/
def isBl (T : TC) (x : Str) : Bool := glB T x && T.bl.contains x
def plainIx : Expr → Bool
  | .Slice .. => false
  | _ => true
def isTy (x : Str) : Option Nat := if x == ("int" : Str) then some 0 else if x == ("bool" : Str) then some 1 else if x == ("str" : Str) then some 2 else if x == ("tuple" : Str) then some 3 else if x == ("list" : Str) then some 4 else none
/-- built-ins that are called with values -/
def blP (x : Str) (n : Nat) : Option Prim :=
  if x == ("abs" : Str) && n == 1 then some .abs else if x == ("len" : Str) && n == 1 then some .len else if x == ("int" : Str) && n == 1 then some .int
  else if x == ("list" : Str) && n == 1 then some .lst else if x == ("tuple" : Str) && n == 1 then some .tup else if x == ("min" : Str) && n == 2 then some .mn else if x == ("max" : Str) && n == 2 then some .mx else none
def trL (tr : Expr → Option E) : List Expr → Option (List E)
  | [] => some []
  | e :: es => match tr e, trL tr es with
    | some a, some r => if notStar e then some (a :: r) else none
    | _, _ => none
def trK (tr : Expr → Option E) : List Keyword → Option (List E)
  | [] => some []
  | ⟨_, e, _⟩ :: es => match tr e, trK tr es with
    | some a, some r => some (a :: r)
    | _, _ => none
def okName (x : Str) : Bool := !(x == ("__debug__" : Str)) && !(x == ("__classdict__" : Str))
def trE1 (T : TC) (tr : Expr → Option E) : Expr → Option E
  | .Constant (.int i) _ _ => some (.cst (.int i))
  | .Constant (.bool b) _ _ => some (.cst (.bl b))
  | .Constant .none _ _ => some (.cst .non)
  | .Constant (.str x) _ _ => some (.cst (.str x))
  | .Name x _ => match T.N.idxOf? x with
    | some i => if visB T x && okName x then some (.var i) else none
    | none => if glB T x && okName x then (T.cn x).map .cst else none
  | .BinOp a op b _ => match opP op, tr a, tr b with
    | some p, some a', some b' => some (.prim p [a', b'])
    | _, _, _ => none
  | .UnaryOp .USub a _ => (tr a).map fun a' => .prim .neg [a']
  | .UnaryOp .Not a _ => (tr a).map .not
  | .Compare a [op] [b] _ => match cmpP op, tr a, tr b with
    | some p, some a', some b' => if behindInMarks op b then none else some (.prim p [a', b'])
    | _, _, _ => none
  | .Compare a [op, op'] [b, c] _ => match cmpP op, cmpP op', tr a, tr b, tr c with
    | some p, some q, some a', some b', some c' => if lastMarks [op, op'] [b, c] then none else some (.chain p q a' b' c')
    | _, _, _, _, _ => none
  | .BoolOp o [a] _ => tr a
  | .BoolOp .And (a :: b :: rest) pos => match tr a, tr (.BoolOp .And (b :: rest) pos) with
    | some a', some b' => some (.and a' b')
    | _, _ => none
  | .BoolOp .Or (a :: b :: rest) pos => match tr a, tr (.BoolOp .Or (b :: rest) pos) with
    | some a', some b' => some (.or a' b')
    | _, _ => none
  | .IfExp c a b _ => match tr c, tr a, tr b with
    | some c', some a', some b' => some (.ite c' a' b')
    | _, _, _ => none
  | .Tuple es _ _ => (trL (tr) es).map (.pack true)
  | .List es _ => (trL (tr) es).map (.pack false)
  | .Subscript a (.Slice none none none _) _ => (tr a).map fun a' => .slc a' false false []
  | .Subscript a (.Slice (some lo) none none _) _ => match tr a, tr lo with
    | some a', some l => some (.slc a' true false [l])
    | _, _ => none
  | .Subscript a (.Slice none (some hi) none _) _ => match tr a, tr hi with
    | some a', some h => some (.slc a' false true [h])
    | _, _ => none
  | .Subscript a (.Slice (some lo) (some hi) none _) _ => match tr a, tr lo, tr hi with
    | some a', some l, some h => some (.slc a' true true [l, h])
    | _, _, _ => none
  | .Subscript a b _ => match tr a, tr b with
    | some a', some b' => if plainIx b then some (.prim .ix [a', b']) else none
    | _, _ => none
  | .Call (.Name x _) es kws _ => match T.fn x with
    | some fi => if glB T x && okName x && kws.all (fun k => k.arg.isSome) then
        match fi.sh.find? (fun s => s.n == es.length && decide (s.ks = kws.filterMap (·.arg))), trL (tr) es, trK (tr) kws with
        | some sh, some es', some ks' => some (.call fi.ix fi.rf sh.pm (es' ++ ks'))
        | _, _, _ => none
      else none
    | none => if isBl T x && kws.isEmpty && okName x && !(x == ("__name__" : Str)) then
        (if x == ("isinstance" : Str) then match es with
          | [a, .Name t _] => (match tr a, isTy t with
            | some a', some k => if isBl T t && notStar a && T.bl.contains ("isinstance" : Str) then some (.prim (.ist k) [a']) else none
            | _, _ => none)
          | _ => none
        else match blP x es.length, trL (tr) es with
          | some p, some es' => some (.prim p es')
          | _, _ => none)
      else none
  | _ => none
def trE (T : TC) : Nat → Expr → Option E
  | 0, _ => none
  | n + 1, e => trE1 T (trE T n) e
end DL

set_option Elab.async false
set_option linter.all false
set_option maxRecDepth 100000
set_option maxHeartbeats 4000000
namespace DL
open PySem PySem.Spec PyProof.Rows L2

section
variable {X : Cx} {W : WX} {xi : XI} {Γ : Gam}
theorem evAs_one (Γ : Gam) (a : E) (l : Loc) : evAs Γ [a] l = (evA1 Γ a l).bind fun r => .ok ([r.1], r.2) := by
  rw [evAs_cons]
  cases evA1 Γ a l with
  | bad => rfl
  | exc x l => rfl
  | ok r => dsimp only [R.bind]; rw [evAs_nil]
theorem evIs_nil (Γ : Gam) (l : Loc) : evIs Γ [] l = .ok ([], l) := by rw [evIs.eq_def]
theorem evIs_cons (Γ : Gam) (e : E) (es : List E) (l : Loc) : evIs Γ (e :: es) l = (evX Γ e l).bind fun r => match r.1 with
    | .val (.int i) => (evIs Γ es r.2).bind fun r2 => .ok (i :: r2.1, r2.2)
    | _ => .bad := by rw [evIs.eq_def]; all_goals rfl
theorem RepR.int' {K : PySem.W.Frag} {Xs M : Ad} {σ : L2.St} {l : Loc} {H : Hp} {v : V} {i : Int} (h : RepR K Xs M σ l H v (.val (.int i))) : v = .int i := by simpa [RepR, Rep] using h
/-- the value that is cut, and its parts -/
theorem slc_core {a : Expr} {a' : E} {b1 b2 : Bool} {es' : List E} (ha : PAD X W xi a (evA1 Γ a')) :
    ∃ ta, PE X a ta ∧ ∀ (Xs : Ad) (σ : L2.St) (H : Hp) (l : Loc) (M : Ad) (Q : VK) (tl th : TO), RepLoc X.K Xs M σ H l →
      Po ⟨X.K, Xs, W, xi, σ⟩ M H (fun s l' M' H' => ∀ v, RepR X.K Xs M' σ l' H' v s → Q v H') (evX Γ (.slc a' b1 b2 es') l) →
      (∀ (M1 : Ad) (H1 : Hp) (l1 : Loc) (R : Option Int → Option Int → Hp → Prop), RepLoc X.K Xs M1 σ H1 l1 →
        Po ⟨X.K, Xs, W, xi, σ⟩ M1 H1 (fun is l' M' H' => ∀ p, partsD b1 b2 is = some p → R p.1 p.2 H') (evIs Γ es' l1) → tl σ H1 fun lo H2 => th σ H2 fun hi H3 => R lo hi H3) →
      tSl (RSl X.K) ta tl th σ H Q := by
  obtain ⟨t, ht, q⟩ := ha.ex
  refine ⟨t, ht, fun Xs σ H l M Q tl th r g parts => ?_⟩
  have e0 : evX Γ (.slc a' b1 b2 es') l = (evA1 Γ a' l).bind fun r => (evIs Γ es' r.2).bind fun r1 => match resL r1.2 [r.1], partsD b1 b2 r1.1 with
    | some [d], some p => (match slD d p with
      | some s => .ok (s, r1.2)
      | none => .bad)
    | _, _ => .bad := by
    rw [evX.eq_def]
    dsimp only
    rw [evAs_one]
    cases evA1 Γ a' l <;> rfl
  rw [e0] at g
  refine q Xs σ H l M _ r (g.bind.imp fun x l1 M1 H1 st1 rl1 g1 v rv => ?_)
  refine parts M1 H1 l1 (fun lo hi H3 => RSl X.K v lo hi H3 Q) rl1 (g1.bind.imp fun is l2 M2 H2 st2 rl2 g2 p ep => ?_)
  rw [ep] at g2
  cases e1 : res l2 x with
  | none => 
    have : resL l2 [x] = none := by simp only [resL, e1]
    dsimp only at g2
    rw [this] at g2
    exact g2.elim
  | some d =>
    have e2 : resL l2 [x] = some [d] := by simp only [resL, e1]
    dsimp only at g2
    rw [e2] at g2
    dsimp only at g2
    cases e3 : slD d p with
    | none => rw [e3] at g2; exact g2.elim
    | some z =>
      rw [e3] at g2
      refine ⟨Fb Xs M2, d, z, rl2.tr (C := ⟨X.K, Xs, W, xi, σ⟩), RepA.pk (C := ⟨X.K, Xs, W, xi, σ⟩) rl2 (rv.step st2) e1, e3, fin_of (C := ⟨X.K, Xs, W, xi, σ⟩) rl2 g2 fun h => ?_⟩
      subst h
      unfold slD at e3
      split at e3 <;> cases e3
theorem int_part {e : Expr} {e' : E} {es' : List E} (h : PD X W xi e (evX Γ e')) : ∃ t, PE X e t ∧ ∀ (Xs : Ad) (σ : L2.St) (H : Hp) (l : Loc) (M : Ad) (post : List Int → Loc → Ad → Hp → Prop) (Q : Option Int → Hp → Prop), RepLoc X.K Xs M σ H l →
    Po ⟨X.K, Xs, W, xi, σ⟩ M H post (evIs Γ (e' :: es') l) →
    (∀ i l1 M1 H1, Step M H M1 H1 → RepLoc X.K Xs M1 σ H1 l1 → Po ⟨X.K, Xs, W, xi, σ⟩ M1 H1 (fun is l' M' H' => post (i :: is) l' M' H') (evIs Γ es' l1) → Q (some i) H1) → tPart t σ H Q := by
  obtain ⟨t, ht, q⟩ := h.ex
  refine ⟨t, ht, fun Xs σ H l M post Q r g nx => ?_⟩
  rw [evIs_cons] at g
  refine q Xs σ H l M _ r (g.bind.imp fun s l1 M1 H1 st1 rl1 g1 v rv => ?_)
  dsimp only at g1
  split at g1
  · rename_i i
    refine ⟨i, rv.int', nx i l1 M1 H1 st1 rl1 (g1.bind.imp fun is l2 M2 H2 st2 rl2 g2 => g2 M2 H2 Step.refl rl2)⟩
  · exact g1.elim
theorem pd_sl00 {a : Expr} {a' : E} {p2 pos : Pos} (ha : PAD X W xi a (evA1 Γ a')) : PD X W xi (.Subscript a (.Slice none none none p2) pos) (evX Γ (.slc a' false false [])) := by
  obtain ⟨t, ht, q⟩ := slc_core (b1 := false) (b2 := false) (es' := []) ha
  refine ⟨_, pe_slice slp ht po_none po_none, fun Xs σ H l M Q r g => q Xs σ H l M Q _ _ r g fun M1 H1 l1 R r1 g1 => ?_⟩
  rw [evIs_nil] at g1
  exact g1 M1 H1 Step.refl r1 (none, none) rfl
theorem pd_sl10 {a lo : Expr} {a' lo' : E} {p2 pos : Pos} (ha : PAD X W xi a (evA1 Γ a')) (hl : PD X W xi lo (evX Γ lo')) : PD X W xi (.Subscript a (.Slice (some lo) none none p2) pos) (evX Γ (.slc a' true false [lo'])) := by
  obtain ⟨t, ht, q⟩ := slc_core (b1 := true) (b2 := false) (es' := [lo']) ha
  obtain ⟨u, hu, o⟩ := int_part (es' := []) hl
  refine ⟨_, pe_slice slp ht (po_some hu) po_none, fun Xs σ H l M Q r g => q Xs σ H l M Q _ _ r g fun M1 H1 l1 R r1 g1 => ?_⟩
  refine o Xs σ H1 l1 M1 _ _ r1 g1 fun i l2 M2 H2 st2 rl2 g2 => ?_
  rw [evIs_nil] at g2
  exact g2 M2 H2 Step.refl rl2 (some i, none) rfl
theorem pd_sl01 {a hi : Expr} {a' hi' : E} {p2 pos : Pos} (ha : PAD X W xi a (evA1 Γ a')) (hh : PD X W xi hi (evX Γ hi')) : PD X W xi (.Subscript a (.Slice none (some hi) none p2) pos) (evX Γ (.slc a' false true [hi'])) := by
  obtain ⟨t, ht, q⟩ := slc_core (b1 := false) (b2 := true) (es' := [hi']) ha
  obtain ⟨u, hu, o⟩ := int_part (es' := []) hh
  refine ⟨_, pe_slice slp ht po_none (po_some hu), fun Xs σ H l M Q r g => q Xs σ H l M Q _ _ r g fun M1 H1 l1 R r1 g1 => ?_⟩
  show tPart u σ H1 _
  refine o Xs σ H1 l1 M1 _ _ r1 g1 fun i l2 M2 H2 st2 rl2 g2 => ?_
  rw [evIs_nil] at g2
  exact g2 M2 H2 Step.refl rl2 (none, some i) rfl
theorem pd_sl11 {a lo hi : Expr} {a' lo' hi' : E} {p2 pos : Pos} (ha : PAD X W xi a (evA1 Γ a')) (hl : PD X W xi lo (evX Γ lo')) (hh : PD X W xi hi (evX Γ hi')) : PD X W xi (.Subscript a (.Slice (some lo) (some hi) none p2) pos) (evX Γ (.slc a' true true [lo', hi'])) := by
  obtain ⟨t, ht, q⟩ := slc_core (b1 := true) (b2 := true) (es' := [lo', hi']) ha
  obtain ⟨u, hu, o⟩ := int_part (es' := [hi']) hl
  obtain ⟨w, hw, z⟩ := int_part (es' := []) hh
  refine ⟨_, pe_slice slp ht (po_some hu) (po_some hw), fun Xs σ H l M Q r g => q Xs σ H l M Q _ _ r g fun M1 H1 l1 R r1 g1 => ?_⟩
  refine o Xs σ H1 l1 M1 _ _ r1 g1 fun i l2 M2 H2 st2 rl2 g2 => ?_
  refine z Xs σ H2 l2 M2 _ _ rl2 g2 fun j l3 M3 H3 st3 rl3 g3 => ?_
  rw [evIs_nil] at g3
  exact g3 M3 H3 Step.refl rl3 (some i, some j) rfl
end

/-! ## what is known where a body runs -/
structure Good (X : Cx) (T : TC) (Γ : Gam) (W : WX) (xi : XI) (k : Nat) : Prop where
  N : X.N = T.N
  sc : X.env.scope.names = T.names
  calm : X.calm = true
  room : Room k X.A
  tk : Takes X W
  fn : ∀ x fi, T.fn x = some fi → Callee X xi k x fi.rf (Γ fi.ix) fi.sh
  cn : ∀ x d, T.cn x = some d → ∃ u v, X.mg x = some u ∧ RelV v u ∧ ∀ F H, Rep X.K F H v d
  bl : ∀ x ∈ T.bl, X.mg x = none
section
variable {X : Cx} {T : TC} {W : WX} {xi : XI} {Γ : Gam} {k : Nat}
theorem Good.vis (G : Good X T Γ W xi k) {x : Str} (h : visB T x = true) : Vis X.env.scope x := by
  unfold visB at h
  unfold Vis
  rw [G.sc]
  split at h <;> first | exact .inl (by assumption) | exact .inr (.inl (by assumption)) | exact .inr (.inr (by assumption)) | cases h
theorem Good.gl (G : Good X T Γ W xi k) {x : Str} (h : glB T x = true) : Gl X x := by
  unfold glB at h
  show X.env.scope.names.lookup x = _
  rw [G.sc]
  split at h <;> first | assumption | cases h
theorem okName_d {x : Str} (h : okName x = true) : (x == ("__debug__" : Str)) = false ∧ (x == ("__classdict__" : Str)) = false := by
  unfold okName at h
  simp only [Bool.and_eq_true, Bool.not_eq_true'] at h
  exact h
theorem idx_get {N : List Str} {x : Str} {i : Nat} (h : N.idxOf? x = some i) : N[i]? = some x := by
  unfold List.idxOf? at h
  have := List.findIdx?_eq_some_iff_getElem.mp h
  obtain ⟨h1, h2, _⟩ := this
  rw [List.getElem?_eq_getElem h1]
  simpa using h2
theorem opP_ok {op : Operator} {p : Prim} (h : opP op = some p) : OpR X (binaryOp op) (RB X.K p) := by
  cases op <;> cases h
  · exact opp_add
  · exact opp_sub
  · exact opp_mul
  · exact opp_mod
  · exact opp_pow
  · exact opp_fdiv
theorem cmpP_ok {op : CmpOp} {p : Prim} (hu : X.A.units + 64 < cLine) (h : cmpP op = some p) : OpR X (compareOp op) (RB X.K p) := by
  cases op <;> cases h
  · exact opp_eq hu
  · exact opp_ne hu
  · exact opp_lt
  · exact opp_le
  · exact opp_gt
  · exact opp_ge
  · exact opp_is
  · exact opp_isnot
  · exact opp_in
  · exact opp_notin
theorem cmpP_bl {op : CmpOp} {p : Prim} (h : cmpP op = some p) : ∀ ds s, primD p ds = some s → ∃ b, s = .val (.bl b) := by
  intro ds s hs
  cases op <;> cases h <;> (unfold primD at hs; split at hs <;> first | contradiction | skip) <;> (try (split at hs)) <;> first | contradiction | (cases hs; exact ⟨_, rfl⟩)
end
end DL

set_option Elab.async false
set_option linter.all false
set_option maxRecDepth 100000
set_option maxHeartbeats 8000000
namespace DL
open PySem PySem.Spec PyProof.Rows L2

/-- all that is shown of a translated expression -/
structure Snd (X : Cx) (W : WX) (xi : XI) (Γ : Gam) (e : Expr) (e' : E) : Prop where
  pd : PD X W xi e (evX Γ e')
  ptd : PTD X W xi e (evT Γ e')
  var : ∀ i, e' = .var i → ∃ t, PE X e t ∧ t = tVar i
  pwd : ∀ op vs pos, e = .BoolOp op vs pos → PWD X W xi e (evT Γ e')
section
variable {X : Cx} {T : TC} {W : WX} {xi : XI} {Γ : Gam} {k : Nat} {e : Expr} {e' : E}
theorem Snd.pad (h : Snd X W xi Γ e e') : PAD X W xi e (evA1 Γ e') := h.pd.pad h.var
theorem ptd_bad {d : Loc → R (Bool × Loc)} (h : ∀ l, d l = .bad) : PTD X W xi e d := ⟨fun _ _ _ => False, ⟨fun _ _ _ _ _ _ h => h.elim⟩, fun Xs σ H l M Q r g => by rw [h] at g; exact g.elim⟩
theorem Snd.plain (h : PD X W xi e (evX Γ e')) (hv : ∀ i, e' = .var i → ∃ t, PE X e t ∧ t = tVar i) (hp : plainT e' = true) (he : ∀ whole, isTrue e X.env whole = (do let v ← whole; standAt e.pos; holding [v] (truthy v))) (hb : ∀ op vs pos, e ≠ .BoolOp op vs pos) : Snd X W xi Γ e e' :=
  ⟨h, ptd_plain (h.pad hv) hp he, hv, fun op vs pos z => absurd z (hb op vs pos)⟩
theorem Snd.bad (h : PD X W xi e (evX Γ e')) (hv : ∀ i, e' ≠ .var i) (hp : ∀ l, evT Γ e' l = .bad) (hb : ∀ op vs pos, e ≠ .BoolOp op vs pos) : Snd X W xi Γ e e' :=
  ⟨h, ptd_bad hp, fun i z => absurd z (hv i), fun op vs pos z => absurd z (hb op vs pos)⟩
theorem trL_ok {tr : Expr → Option E} (ih : ∀ e e', tr e = some e' → Snd X W xi Γ e e') : ∀ {es : List Expr} {es' : List E}, trL tr es = some es' → PLA X W xi es (evAs Γ es') ∧ PLD X W xi es (evDs Γ es') ∧ es'.length = es.length ∧ es.all notStar = true
  | [], es', h => by cases h; exact ⟨pla_nil, pld_nil, rfl, rfl⟩
  | e :: es, es', h => by
    unfold trL at h
    cases e1 : tr e with
    | none => rw [e1] at h; cases h
    | some a =>
      cases e2 : trL tr es with
      | none => rw [e1, e2] at h; cases h
      | some r =>
        rw [e1, e2] at h
        dsimp only at h
        split at h
        · rename_i hs
          cases h
          obtain ⟨h1, h2, h3, h4⟩ := trL_ok ih e2
          have s := ih e a e1
          exact ⟨pla_cons s.pad h1 (starEach_cons hs), pld_cons s.pd h2 (starEach_cons hs), by rw [List.length_cons, List.length_cons, h3], by rw [List.all_cons, hs, h4]; rfl⟩
        · cases h
theorem trK_ok {tr : Expr → Option E} (ih : ∀ e e', tr e = some e' → Snd X W xi Γ e e') : ∀ {ks : List Keyword} {es' : List E}, trK tr ks = some es' → PKA X W xi ks (evAs Γ es') ∧ es'.length = ks.length
  | [], es', h => by cases h; exact ⟨pka_nil, rfl⟩
  | ⟨n, e, p⟩ :: es, es', h => by
    unfold trK at h
    cases e1 : tr e with
    | none => rw [e1] at h; cases h
    | some a =>
      cases e2 : trK tr es with
      | none => rw [e1, e2] at h; cases h
      | some r =>
        rw [e1, e2] at h
        cases h
        obtain ⟨h1, h3⟩ := trK_ok ih e2
        exact ⟨pka_cons (ih e a e1).pad h1, by rw [List.length_cons, List.length_cons, h3]⟩
theorem plainIx_ok {b : Expr} (h : plainIx b = true) : PlainIx b := by
  intro o i
  cases b <;> first | rfl | cases h
theorem blt_of (G : Good X T Γ W xi k) {x : Str} (h : isBl T x = true) : Gl X x ∧ X.mg x = none := by
  unfold isBl at h
  rw [Bool.and_eq_true] at h
  exact ⟨G.gl h.1, G.bl x (by simpa using h.2)⟩
theorem kw_len {ks : List Keyword} (h : ks.all (fun k => k.arg.isSome) = true) : (ks.filterMap (·.arg)).length = ks.length := by
  induction ks with
  | nil => rfl
  | cons a ks ih =>
    rw [List.all_cons, Bool.and_eq_true] at h
    rw [List.filterMap_cons]
    cases e : a.arg with
    | none => rw [e] at h; cases h.1
    | some x => dsimp only; rw [List.length_cons, List.length_cons, ih h.2]
theorem pd_blt {es : List Expr} {es' : List E} {p : Prim} {x : Str} {px pos : Pos} (G : Good X T Γ W xi k) (hb : isBl T x = true) (ho : okName x = true) (hn : (x == ("__name__" : Str)) = false) (hp : blP x es.length = some p) (h : PLA X W xi es (evAs Γ es')) (hs : es.all notStar = true) :
    PD X W xi (.Call (.Name x px) es [] pos) (evX Γ (.prim p es')) := by
  obtain ⟨hg, hm⟩ := blt_of G hb
  obtain ⟨t, ht, q⟩ := many (p := p) h
  have hd := (okName_d ho).1
  have hne : x ≠ ("__name__" : Str) := by simpa using hn
  cases es with
  | nil =>
    unfold blP at hp
    simp at hp
  | cons e es =>
    have hs' := hs
    rw [List.all_cons, Bool.and_eq_true] at hs'
    have se := starEach_cons (es := es) (env := X.env) hs'.1
    have sa := starEach_any (env := X.env) (pos := pos) hs'.2
    unfold blP at hp
    split at hp
    · rename_i hx; cases hp
      rw [Bool.and_eq_true] at hx
      have hx1 : x = ("abs" : Str) := by simpa using hx.1
      subst hx1
      exact ⟨_, pe_callB cp_abs hg hm (by decide +kernel) ht hne hd se sa, q⟩
    split at hp
    · rename_i hx; cases hp
      rw [Bool.and_eq_true] at hx
      have hx1 : x = ("len" : Str) := by simpa using hx.1
      subst hx1
      exact ⟨_, pe_callB cp_len hg hm (by decide +kernel) ht hne hd se sa, q⟩
    split at hp
    · rename_i hx; cases hp
      rw [Bool.and_eq_true] at hx
      have hx1 : x = ("int" : Str) := by simpa using hx.1
      subst hx1
      exact ⟨_, pe_callTy cp_int hg hm (by decide +kernel) ht hne hd se sa, q⟩
    split at hp
    · rename_i hx; cases hp
      rw [Bool.and_eq_true] at hx
      have hx1 : x = ("list" : Str) := by simpa using hx.1
      subst hx1
      exact ⟨_, pe_callTy cp_list hg hm (by decide +kernel) ht hne hd se sa, q⟩
    split at hp
    · rename_i hx; cases hp
      rw [Bool.and_eq_true] at hx
      have hx1 : x = ("tuple" : Str) := by simpa using hx.1
      subst hx1
      exact ⟨_, pe_callTy cp_tuple hg hm (by decide +kernel) ht hne hd se sa, q⟩
    split at hp
    · rename_i hx; cases hp
      rw [Bool.and_eq_true] at hx
      have hx1 : x = ("min" : Str) := by simpa using hx.1
      subst hx1
      exact ⟨_, pe_callB (cp_min G.calm) hg hm (by decide +kernel) ht hne hd se sa, q⟩
    split at hp
    · rename_i hx; cases hp
      rw [Bool.and_eq_true] at hx
      have hx1 : x = ("max" : Str) := by simpa using hx.1
      subst hx1
      exact ⟨_, pe_callB (cp_max G.calm) hg hm (by decide +kernel) ht hne hd se sa, q⟩
    · cases hp
theorem isTy_ok {x : Str} {j : Nat} (h : isTy x = some j) : bootBuiltins x = some (.type (istN j)) ∧ x ≠ ("__name__" : Str) ∧ (x == ("__debug__" : Str)) = false := by
  unfold isTy at h
  split at h
  · rename_i hx; cases h
    have hx1 : x = ("int" : Str) := by simpa using hx
    subst hx1; exact ⟨by decide +kernel, by decide, by decide⟩
  split at h
  · rename_i hx; cases h
    have hx1 : x = ("bool" : Str) := by simpa using hx
    subst hx1; exact ⟨by decide +kernel, by decide, by decide⟩
  split at h
  · rename_i hx; cases h
    have hx1 : x = ("str" : Str) := by simpa using hx
    subst hx1; exact ⟨by decide +kernel, by decide, by decide⟩
  split at h
  · rename_i hx; cases h
    have hx1 : x = ("tuple" : Str) := by simpa using hx
    subst hx1; exact ⟨by decide +kernel, by decide, by decide⟩
  split at h
  · rename_i hx; cases h
    have hx1 : x = ("list" : Str) := by simpa using hx
    subst hx1; exact ⟨by decide +kernel, by decide, by decide⟩
  · cases h
theorem pd_ist {a : Expr} {a' : E} {t : Str} {j : Nat} {px pt pos : Pos} (G : Good X T Γ W xi k) (hb : isBl T ("isinstance" : Str) = true) (ht : isBl T t = true) (hj : isTy t = some j) (h : PAD X W xi a (evA1 Γ a')) (hs : notStar a = true) :
    PD X W xi (.Call (.Name "isinstance" px) [a, .Name t pt] [] pos) (evX Γ (.prim (.ist j) [a'])) := by
  obtain ⟨hg, hm⟩ := blt_of G hb
  obtain ⟨hg2, hm2⟩ := blt_of G ht
  obtain ⟨ta, hta, q⟩ := sole (p := .ist j) h
  obtain ⟨b1, b2, b3⟩ := isTy_ok hj
  have hp : PA X [a, .Name t pt] (tCons ta (tCons (tC (.ty (istN j))) tNil)) := pa_cons hta (pa_cons (pe_bltn hg2 hm2 b1 rfl b2 b3) pa_nil) (starEach_cons hs)
  refine ⟨_, pe_callB (cp_isi (T := j)) hg hm (by decide +kernel) hp (by decide) (by decide) (starEach_cons hs), fun Xs σ H l M Q r g => ?_⟩
  have := q Xs σ H l M Q r g
  show ta σ H _
  obtain ⟨F, hF⟩ : ∃ F : VK, F = fun x H1 => ∃ (F : Ad) (d : D) (s : Sl), Trk F H1 ∧ Pk X.K F H1 x d ∧ primD (.ist j) [d] = some s ∧ FinP X.K F H1 Q s := ⟨_, rfl⟩
  have e : (fun x H1 => ∃ (F : Ad) (d : D) (s : Sl), Trk F H1 ∧ Pk X.K F H1 x d ∧ primD (.ist j) [d] = some s ∧ FinP X.K F H1 Q s) = (fun x H1 => RIs X.K j [x, .ty (istN j)] H1 Q) := by
    funext x H1
    apply propext
    constructor
    · rintro ⟨F, d, s, h1, h2, h3, h4⟩
      exact ⟨F, d, x, s, rfl, h1, h2, h3, h4⟩
    · rintro ⟨F, d, v, s, e, h1, h2, h3, h4⟩
      cases e
      exact ⟨F, d, s, h1, h2, h3, h4⟩
  rw [e] at this
  exact this
end
end DL

set_option Elab.async false
set_option linter.all false
set_option maxRecDepth 100000
set_option maxHeartbeats 8000000
namespace DL
open PySem PySem.Spec PyProof.Rows L2

theorem sndE : ∀ (n : Nat) {X : Cx} {T : TC} {W : WX} {xi : XI} {Γ : Gam} {k : Nat} {e : Expr} {e' : E}, Good X T Γ W xi k → trE T n e = some e' → Snd X W xi Γ e e' := by
  intro n
  induction n with
  | zero => intro X T W xi Γ k e e' G h; unfold trE at h; cases h
  | succ n ih =>
    intro X T W xi Γ k e e' G h
    have IH : ∀ e e', trE T n e = some e' → Snd X W xi Γ e e' := fun e e' h => ih G h
    have hu : X.A.units + 64 < cLine := G.room.units
    have h' : trE1 T (trE T n) e = some e' := h
    clear h
    have h := h'
    clear h'
    generalize trE T n = tr at h IH
    unfold trE1 at h
    split at h
    · cases h; exact .plain (pd_cst pe_int fun _ _ => Rep.int _) (fun i z => nomatch z) rfl (fun _ => rfl) (fun _ _ _ z => nomatch z)
    · cases h; exact .plain (pd_cst pe_bl fun _ _ => Rep.bl _) (fun i z => nomatch z) rfl (fun _ => rfl) (fun _ _ _ z => nomatch z)
    · cases h; exact .plain (pd_cst pe_non fun _ _ => Rep.non) (fun i z => nomatch z) rfl (fun _ => rfl) (fun _ _ _ z => nomatch z)
    · cases h; exact .plain (pd_cst pe_str fun _ _ => Rep.str _) (fun i z => nomatch z) rfl (fun _ => rfl) (fun _ _ _ z => nomatch z)
    · -- a name
      split at h
      · rename_i i hi
        split at h
        · rename_i hc
          rw [Bool.and_eq_true] at hc
          cases h
          have hd := okName_d hc.2
          have pv := fun pos => pe_var (X := X) (i := i) (pos := pos) (by rw [G.N]; exact idx_get hi) (G.vis hc.1) hd.1 hd.2
          exact .plain (pd_var (pv _)) (fun j z => by cases z; exact ⟨_, pv _, rfl⟩) rfl (fun _ => rfl) (fun _ _ _ z => nomatch z)
        · cases h
      · split at h
        · rename_i hc
          rw [Bool.and_eq_true] at hc
          rw [Option.map_eq_some_iff] at h
          obtain ⟨d, hd, rfl⟩ := h
          obtain ⟨u, v, h1, h2, h3⟩ := G.cn _ _ hd
          exact .plain (pd_cst (pe_glob (G.gl hc.1) h1 h2 (okName_d hc.2).1) h3) (fun i z => nomatch z) rfl (fun _ => rfl) (fun _ _ _ z => nomatch z)
        · cases h
    · -- a op b
      split at h
      · rename_i p a' b' h1 h2 h3
        cases h
        exact .plain (pd_bin (opP_ok h1) (IH _ _ h2).pad (IH _ _ h3).pad) (fun i z => nomatch z) rfl (fun _ => rfl) (fun _ _ _ z => nomatch z)
      · cases h
    · -- -a
      rw [Option.map_eq_some_iff] at h
      obtain ⟨a', h1, rfl⟩ := h
      exact .plain (pd_neg (IH _ _ h1).pad) (fun i z => nomatch z) rfl (fun _ => rfl) (fun _ _ _ z => nomatch z)
    · -- not a
      rw [Option.map_eq_some_iff] at h
      obtain ⟨a', h1, rfl⟩ := h
      exact ⟨pd_not (IH _ _ h1).pd, ptd_not (IH _ _ h1).ptd, (fun i z => nomatch z), (fun _ _ _ z => nomatch z)⟩
    · -- a op b, compared
      split at h
      · rename_i p a' b' h1 h2 h3
        split at h
        · cases h
        · rename_i hm
          cases h
          have hm' := Bool.eq_false_iff.mpr hm
          exact ⟨pd_cmp (cmpP_ok hu h1) (IH _ _ h2).pad (IH _ _ h3).pad hm', ptd_cmp (cmpP_ok hu h1) (IH _ _ h2).pad (IH _ _ h3).pad hm' (cmpP_bl h1), (fun i z => nomatch z), (fun _ _ _ z => nomatch z)⟩
      · cases h
    · split at h
      · rename_i p q a' b' c' h1 h2 h3 h4 h5
        split at h
        · cases h
        · rename_i hm
          cases h
          have hm' := Bool.eq_false_iff.mpr hm
          exact ⟨pd_chain (cmpP_ok hu h1) (cmpP_ok hu h2) (IH _ _ h3).pd (IH _ _ h4).pd (IH _ _ h5).pd hm', ptd_chain (cmpP_ok hu h1) (cmpP_ok hu h2) (IH _ _ h3).pd (IH _ _ h4).pd (IH _ _ h5).pd hm' (cmpP_bl h2), (fun i z => nomatch z), (fun _ _ _ z => nomatch z)⟩
      · cases h
    · -- [a] of and, or
      rename_i o a pos
      have s := IH _ _ h
      obtain ⟨t, ht, q⟩ := s.pd.ex
      have pw : PWD X W xi (.BoolOp o [a] pos) (evT Γ e') := by
        cases o with
        | And => exact ⟨ptd_and1 s.ptd⟩
        | Or => exact ⟨ptd_or1 s.ptd⟩
      exact ⟨⟨t, pe_one ht, q⟩, pw.ptd, fun i z => by
        obtain ⟨t, ht, e⟩ := s.var i z
        exact ⟨t, pe_one ht, e⟩, fun _ _ _ z => pw⟩
    · split at h
      · rename_i a' b' h1 h2
        cases h
        have s1 := IH _ _ h1
        have s2 := IH _ _ h2
        have pw := pwd_and s1.ptd (s2.pwd _ _ _ rfl)
        exact ⟨pd_and s1.pd s2.pd, pw.ptd, (fun i z => nomatch z), (fun _ _ _ _ => pw)⟩
      · cases h
    · split at h
      · rename_i a' b' h1 h2
        cases h
        have s1 := IH _ _ h1
        have s2 := IH _ _ h2
        have pw := pwd_or s1.ptd (s2.pwd _ _ _ rfl)
        exact ⟨pd_or s1.pd s2.pd, pw.ptd, (fun i z => nomatch z), (fun _ _ _ _ => pw)⟩
      · cases h
    · split at h
      · rename_i c' a' b' h1 h2 h3
        cases h
        exact .bad (pd_ite (IH _ _ h1).ptd (IH _ _ h2).pd (IH _ _ h3).pd) (fun i z => nomatch z) (fun l => by rw [evT.eq_def]) (fun _ _ _ z => nomatch z)
      · cases h
    · rw [Option.map_eq_some_iff] at h
      obtain ⟨es', h1, rfl⟩ := h
      exact .bad (pd_tup (trL_ok IH h1).2.1) (fun i z => nomatch z) (fun l => by rw [evT.eq_def]) (fun _ _ _ z => nomatch z)
    · rw [Option.map_eq_some_iff] at h
      obtain ⟨es', h1, rfl⟩ := h
      exact .bad (pd_lst (trL_ok IH h1).2.1) (fun i z => nomatch z) (fun l => by rw [evT.eq_def]) (fun _ _ _ z => nomatch z)
    · rw [Option.map_eq_some_iff] at h
      obtain ⟨a', h1, rfl⟩ := h
      exact .bad (pd_sl00 (IH _ _ h1).pad) (fun i z => nomatch z) (fun l => by rw [evT.eq_def]) (fun _ _ _ z => nomatch z)
    · split at h
      · rename_i a' b' h1 h2
        cases h
        exact .bad (pd_sl10 (IH _ _ h1).pad (IH _ _ h2).pd) (fun i z => nomatch z) (fun l => by rw [evT.eq_def]) (fun _ _ _ z => nomatch z)
      · cases h
    · split at h
      · rename_i a' b' h1 h2
        cases h
        exact .bad (pd_sl01 (IH _ _ h1).pad (IH _ _ h2).pd) (fun i z => nomatch z) (fun l => by rw [evT.eq_def]) (fun _ _ _ z => nomatch z)
      · cases h
    · split at h
      · rename_i a' b' c' h1 h2 h3
        cases h
        exact .bad (pd_sl11 (IH _ _ h1).pad (IH _ _ h2).pd (IH _ _ h3).pd) (fun i z => nomatch z) (fun l => by rw [evT.eq_def]) (fun _ _ _ z => nomatch z)
      · cases h
    · split at h
      · rename_i a' b' h1 h2
        split at h
        · rename_i hp
          cases h
          exact .plain (pd_ix (IH _ _ h1).pad (IH _ _ h2).pad (plainIx_ok hp)) (fun i z => nomatch z) rfl (fun _ => rfl) (fun _ _ _ z => nomatch z)
        · cases h
      · cases h
    · -- f(..)
      split at h
      · rename_i fi hf
        split at h
        · rename_i hc
          simp only [Bool.and_eq_true] at hc
          split at h
          · rename_i sh es' ks' h1 h2 h3
            cases h
            have hm := List.mem_of_find?_eq_some h1
            have hq := List.find?_some h1
            simp only [Bool.and_eq_true, beq_iff_eq, decide_eq_true_eq] at hq
            obtain ⟨p1, _, p3, p4⟩ := trL_ok IH h2
            obtain ⟨q1, q2⟩ := trK_ok IH h3
            refine .plain (pd_call (G.fn _ _ hf) hm G.room G.tk (G.gl hc.1.1) (okName_d hc.1.2).1 p1 q1 p4 hc.2 hq.2.symm hq.1 p3 (by rw [q2, hq.2, kw_len hc.2])) (fun i z => nomatch z) rfl (fun _ => rfl) (fun _ _ _ z => nomatch z)
          · cases h
        · cases h
      · split at h
        · rename_i hc
          simp only [Bool.and_eq_true, Bool.not_eq_true'] at hc
          obtain ⟨⟨⟨hb, hk⟩, hn⟩, hnm⟩ := hc
          have hk' := List.isEmpty_iff.mp hk
          subst hk'
          split at h
          · rename_i hx
            have hx' := eq_of_beq hx
            subst hx'
            split at h
            · split at h
              · rename_i a' j h1 h2
                split at h
                · rename_i hh
                  simp only [Bool.and_eq_true] at hh
                  cases h
                  exact .plain (pd_ist G hb hh.1.1 h2 (IH _ _ h1).pad hh.1.2) (fun i z => nomatch z) rfl (fun _ => rfl) (fun _ _ _ z => nomatch z)
                · cases h
              · cases h
            · cases h
          · split at h
            · rename_i p es' h1 h2
              cases h
              obtain ⟨p1, _, p3, p4⟩ := trL_ok IH h2
              exact .plain (pd_blt G hb hn hnm h1 p1 p4) (fun i z => nomatch z) rfl (fun _ => rfl) (fun _ _ _ z => nomatch z)
            · cases h
        · cases h
    · cases h
end DL

set_option Elab.async false
set_option linter.all false
set_option maxRecDepth 100000
set_option maxHeartbeats 4000000
namespace DL
open PySem PySem.Spec PyProof.Rows L2

/-! ## statements: what is wanted -/
structure Cs where
  K : PySem.W.Frag
  Xs : Ad
  W : WX
  xi : XI
  pr : List Nat
abbrev Cs.cf (C : Cs) (σ : L2.St) : Cf := ⟨C.K, C.Xs, C.W, C.xi, σ⟩
def Keep (pr : List Nat) (σ σ' : L2.St) : Prop := ∀ i ∈ pr, σ'[i]? = σ[i]?
theorem Keep.refl {pr : List Nat} {σ : L2.St} : Keep pr σ σ := fun _ _ => rfl
theorem Keep.trans {pr : List Nat} {σ σ1 σ2 : L2.St} (a : Keep pr σ σ1) (b : Keep pr σ1 σ2) : Keep pr σ σ2 := fun i h => (b i h).trans (a i h)
def PoS (C : Cs) (σ : L2.St) (M : Ad) (H : Hp) (D : Ends) : R (Fl × Loc) → Prop
  | .ok (.nx, l') => ∀ σ' M' H', Step M H M' H' → RepLoc C.K C.Xs M' σ' H' l' → Keep C.pr σ σ' → D.nx σ' H'
  | .ok (.brk, l') => ∀ σ' M' H', Step M H M' H' → RepLoc C.K C.Xs M' σ' H' l' → Keep C.pr σ σ' → D.bk σ' H'
  | .ok (.cnt, l') => ∀ σ' M' H', Step M H M' H' → RepLoc C.K C.Xs M' σ' H' l' → Keep C.pr σ σ' → D.ct σ' H'
  | .ok (.ret s, l') => ∀ v σ' M' H', Step M H M' H' → RepLoc C.K C.Xs M' σ' H' l' → Keep C.pr σ σ' → RepR C.K C.Xs M' σ' l' H' v s → D.rt v H'
  | .exc x l' => ∀ cls d σ' M' H', Step M H M' H' → RepLoc C.K C.Xs M' σ' H' l' → Keep C.pr σ σ' → C.xi x cls d H' → C.W cls d σ' H'
  | .bad => False
section
variable {α : Type} {C : Cs} {σ σ' : L2.St} {M M' : Ad} {H H' : Hp} {D D' : Ends} {r : R (Fl × Loc)}
theorem PoS.shift (h : PoS C σ M H D r) (s : Step M H M' H') (k : Keep C.pr σ σ') : PoS C σ' M' H' D r := by
  match r, h with
  | .ok (.nx, l), h => exact fun σ2 M2 H2 s2 r2 k2 => h σ2 M2 H2 (s.trans s2) r2 (k.trans k2)
  | .ok (.brk, l), h => exact fun σ2 M2 H2 s2 r2 k2 => h σ2 M2 H2 (s.trans s2) r2 (k.trans k2)
  | .ok (.cnt, l), h => exact fun σ2 M2 H2 s2 r2 k2 => h σ2 M2 H2 (s.trans s2) r2 (k.trans k2)
  | .ok (.ret z, l), h => exact fun v σ2 M2 H2 s2 r2 k2 => h v σ2 M2 H2 (s.trans s2) r2 (k.trans k2)
  | .exc x l, h => exact fun c d σ2 M2 H2 s2 r2 k2 => h c d σ2 M2 H2 (s.trans s2) r2 (k.trans k2)
  | .bad, h => exact h
/-- an expression ahead of a statement -/
theorem PoS.bind {r : R (α × Loc)} {f : α × Loc → R (Fl × Loc)} (h : PoS C σ M H D (r.bind f)) : Po (C.cf σ) M H (fun a l' M' H' => PoS C σ M' H' D (f (a, l'))) r := by
  cases r with
  | ok a => exact fun M2 H2 s2 rl => PoS.shift (show PoS C σ M H D (f a) from h) s2 Keep.refl
  | exc x l => exact fun cls d M2 H2 s2 rl hx => h cls d σ M2 H2 s2 rl Keep.refl hx
  | bad => exact h
end
structure PSD (X : Cx) (W : WX) (xi : XI) (pr : List Nat) (st : Stmt) (d : Loc → R (Fl × Loc)) : Prop where
  ex : ∃ t : TS, PS X st t ∧ ∀ (Xs : Ad) (σ : L2.St) (H : Hp) (l : Loc) (M : Ad) (D : Ends), RepLoc X.K Xs M σ H l → PoS ⟨X.K, Xs, W, xi, pr⟩ σ M H D (d l) → t D σ H
structure PBD (X : Cx) (W : WX) (xi : XI) (pr : List Nat) (st : List Stmt) (d : Loc → R (Fl × Loc)) : Prop where
  ex : ∃ t : TS, PSs X st t ∧ ∀ (Xs : Ad) (σ : L2.St) (H : Hp) (l : Loc) (M : Ad) (D : Ends), RepLoc X.K Xs M σ H l → PoS ⟨X.K, Xs, W, xi, pr⟩ σ M H D (d l) → t D σ H
structure PGD (X : Cx) (pr : List Nat) (tg : Expr) (t' : Tg) : Prop where
  ex : ∃ t : TG, PG X tg t ∧ ∀ (Xs : Ad) (σ : L2.St) (H : Hp) (l l1 : Loc) (M : Ad) (v : V) (d : D) (Q : L2.St → Hp → Prop), RepLoc X.K Xs M σ H l → Rep X.K (Fb Xs M) H v d → bindT t' d l = some l1 →
    (∀ σ', RepLoc X.K Xs M σ' H l1 → Keep pr σ σ' → Q σ' H) → t v σ H Q
structure PGsD (X : Cx) (pr : List Nat) (ts : List Expr) (ts' : List Tg) : Prop where
  ex : ∃ t : TGs, PGs X ts t ∧ ∀ (Xs : Ad) (σ : L2.St) (H : Hp) (l l1 : Loc) (M : Ad) (vs : List V) (ds : List D) (Q : L2.St → Hp → Prop), RepLoc X.K Xs M σ H l → RepL X.K (Fb Xs M) H vs ds → bindT.bindTs ts' ds l = some l1 →
    (∀ σ', RepLoc X.K Xs M σ' H l1 → Keep pr σ σ' → Q σ' H) → t vs σ H Q

/-! ## slots stored -/
section
variable {K : PySem.W.Frag} {Xs M : Ad} {σ : L2.St} {H : Hp} {l : Loc}
theorem RepLoc.set (r : RepLoc K Xs M σ H l) {i : Nat} {v : V} {s : Sl} (hi : i < l.length) (h : RepR K Xs M σ l H v s) : RepLoc K Xs M (σ.set i (some v)) H (l.set i s) := by
  have hσ : i < σ.length := by rw [r.len]; exact hi
  have at1 : ∀ (j : Nat) z, (l.set i s)[j]? = some z → (j = i ∧ z = s) ∨ (j ≠ i ∧ l[j]? = some z) := fun j z e => by
    by_cases hj : j = i
    · subst hj; rw [List.getElem?_set_self hi] at e; exact .inl ⟨rfl, (Option.some.inj e).symm⟩
    · rw [List.getElem?_set_ne (Ne.symm hj)] at e; exact .inr ⟨hj, e⟩
  have at2 : (σ.set i (some v))[i]? = some (some v) := List.getElem?_set_self hσ
  have at3 : ∀ j, j ≠ i → (σ.set i (some v))[j]? = σ[j]? := fun j hj => List.getElem?_set_ne (Ne.symm hj)
  refine ⟨by rw [List.length_set, List.length_set]; exact r.len, fun j d e => ?_, fun j ds e => ?_, fun j k a ds es e1 e2 e3 e4 => ?_, r.trk, r.dis⟩
  · rcases at1 j _ e with ⟨rfl, e'⟩ | ⟨hj, e'⟩
    · subst e'; exact ⟨v, at2, h⟩
    · rw [at3 j hj]; exact r.val j d e'
  · rcases at1 j _ e with ⟨rfl, e'⟩ | ⟨hj, e'⟩
    · subst e'
      obtain ⟨a, vs, rfl, h1, h2, h3, _⟩ := h
      exact ⟨a, vs, at2, h1, h2, h3⟩
    · rw [at3 j hj]; exact r.own j ds e'
  · rcases at1 j _ e1 with ⟨rfl, q1⟩ | ⟨hj, q1⟩
    · rcases at1 k _ e2 with ⟨rfl, q2⟩ | ⟨hk, q2⟩
      · rfl
      · subst q1
        obtain ⟨b, vs, rfl, _, _, _, h4⟩ := h
        rw [at2] at e3
        have : a = b := by simpa using e3.symm
        subst this
        rw [at3 k hk] at e4
        exact absurd e4 (h4 k es q2)
    · rcases at1 k _ e2 with ⟨rfl, q2⟩ | ⟨hk, q2⟩
      · subst q2
        obtain ⟨b, vs, rfl, _, _, _, h4⟩ := h
        rw [at2] at e4
        have : a = b := by simpa using e4.symm
        subst this
        rw [at3 j hj] at e3
        exact absurd e3 (h4 j ds q1)
      · rw [at3 j hj] at e3
        rw [at3 k hk] at e4
        exact r.inj j k a _ _ q1 q2 e3 e4
/-- an own list is changed -/
theorem RepLoc.put (r : RepLoc K Xs M σ H l) {i : Nat} {ds es : List D} {a : Addr} {ws : List V} (e : l[i]? = some (.own ds)) (s : σ[i]? = some (some (.ref a))) (h : RepL K (Fb Xs M) H ws es) :
    Step M H M (upd H a (.lst ws)) ∧ RepLoc K Xs M σ (upd H a (.lst ws)) (l.set i (.own es)) := by
  obtain ⟨b, vs, h1, h2, h3, h4⟩ := r.own i ds e
  rw [s] at h1
  have : a = b := by simpa using h1
  subst this
  have st : Step M H M (upd H a (.lst ws)) := Step.put h2 h3
  have hi : i < l.length := (List.getElem?_eq_some_iff.mp e).1
  refine ⟨st, by rw [List.length_set]; exact r.len, fun j d e1 => ?_, fun j fs e1 => ?_, fun j k b fs gs e1 e2 e3 e4 => ?_, fun b z => ?_, r.dis⟩
  · by_cases hj : j = i
    · subst hj; rw [List.getElem?_set_self hi] at e1; cases e1
    · rw [List.getElem?_set_ne (Ne.symm hj)] at e1
      obtain ⟨v, q1, q2⟩ := r.val j d e1
      exact ⟨v, q1, q2.step st⟩
  · by_cases hj : j = i
    · subst hj; rw [List.getElem?_set_self hi] at e1; cases e1
      exact ⟨a, ws, s, h2, upd_same, h.step st⟩
    · rw [List.getElem?_set_ne (Ne.symm hj)] at e1
      obtain ⟨b, us, q1, q2, q3, q4⟩ := r.own j fs e1
      refine ⟨b, us, q1, q2, ?_, q4.step st⟩
      have hb : b ≠ a := fun z => hj (by subst z; exact r.inj j i b _ _ e1 e q1 s)
      rw [upd_ne hb]; exact q3
  · have at1 : ∀ (j : Nat) fs, (l.set i (.own es))[j]? = some (.own fs) → ∃ gs, l[j]? = some (.own gs) := fun j fs e1 => by
      by_cases hj : j = i
      · subst hj; exact ⟨ds, e⟩
      · rw [List.getElem?_set_ne (Ne.symm hj)] at e1; exact ⟨fs, e1⟩
    obtain ⟨_, q1⟩ := at1 j fs e1
    obtain ⟨_, q2⟩ := at1 k gs e2
    exact r.inj j k b _ _ q1 q2 e3 e4
  · by_cases hb : b = a
    · rw [hb, upd_same]; exact ⟨ws, rfl⟩
    · rw [upd_ne hb]; exact r.trk b z
theorem RepLoc.unset (r : RepLoc K Xs M σ H l) (i : Nat) : RepLoc K Xs M σ H (l.set i .un) := by
  have at1 : ∀ (j : Nat) z, z ≠ Sl.un → (l.set i .un)[j]? = some z → l[j]? = some z := fun j z hz e => by
    by_cases hj : j = i
    · subst hj
      by_cases hi : j < l.length
      · rw [List.getElem?_set_self hi] at e; exact absurd (Option.some.inj e).symm hz
      · rw [List.getElem?_eq_none (by rw [List.length_set]; omega)] at e; cases e
    · rw [List.getElem?_set_ne (Ne.symm hj)] at e; exact e
  exact ⟨by rw [List.length_set]; exact r.len, fun j d e => r.val j d (at1 j _ (by intro z; cases z) e), fun j ds e => r.own j ds (at1 j _ (by intro z; cases z) e),
    fun j k a ds es e1 e2 e3 e4 => r.inj j k a _ _ (at1 j _ (by intro z; cases z) e1) (at1 k _ (by intro z; cases z) e2) e3 e4, r.trk, r.dis⟩
end

/-! ## targets -/
section
variable {X : Cx} {pr : List Nat}
theorem pgd_name {i : Nat} {x : Str} {pos : Pos} (hN : X.N.Nodup) (hi : X.N[i]? = some x) (hx : L2.Loc X.env.scope x) (hf : X.fn x = true ∨ X.env.scope.names.lookup x = some .local) (hp : i ∉ pr) : PGD X pr (.Name x pos) (.name i) := by
  refine ⟨gName i, pg_name hN hi hx hf, fun Xs σ H l l1 M v d Q r rv e q => ?_⟩
  unfold bindT at e
  split at e
  · rename_i h
    cases e
    exact q _ (r.set h rv) fun j hj => List.getElem?_set_ne (fun z => hp (by rw [z]; exact hj))
  · cases e
theorem pgsd_nil : PGsD X pr [] [] := ⟨gNil, pgs_nil, fun Xs σ H l l1 M vs ds Q r rv e q => by
  cases ds with
  | nil =>
    unfold bindT.bindTs at e
    cases e
    rw [RepL] at rv
    exact ⟨rv, q σ r Keep.refl⟩
  | cons d ds => unfold bindT.bindTs at e; cases e⟩
theorem pgsd_cons {e : Expr} {es : List Expr} {t' : Tg} {ts' : List Tg} (h1 : PGD X pr e t') (h2 : PGsD X pr es ts') (hs : notStar e = true) : PGsD X pr (e :: es) (t' :: ts') := by
  obtain ⟨t, ht, q⟩ := h1.ex
  obtain ⟨u, hu, p⟩ := h2.ex
  refine ⟨_, pgs_cons ht hu (by cases e <;> first | rfl | cases hs), fun Xs σ H l l1 M vs ds Q r rv e' g => ?_⟩
  cases ds with
  | nil => unfold bindT.bindTs at e'; cases e'
  | cons d ds =>
    unfold bindT.bindTs at e'
    cases e1 : bindT t' d l with
    | none => rw [e1] at e'; cases e'
    | some l2 =>
      rw [e1] at e'
      rw [RepL] at rv
      obtain ⟨v, rs, rfl, h3, h4⟩ := rv
      refine ⟨v, rs, rfl, q Xs σ H l l2 M v d _ r h3 e1 fun σ1 r1 k1 => ?_⟩
      exact p Xs σ1 H l2 l1 M rs ds Q r1 h4 e' fun σ2 r2 k2 => g σ2 r2 (k1.trans k2)
theorem bindTs_len : ∀ {ts : List Tg} {ds : List D} {l l1 : Loc}, bindT.bindTs ts ds l = some l1 → ds.length = ts.length
  | [], [], _, _, _ => rfl
  | [], _ :: _, _, _, e => by unfold bindT.bindTs at e; cases e
  | _ :: _, [], _, _, e => by unfold bindT.bindTs at e; cases e
  | t :: ts, d :: ds, l, l1, e => by
    unfold bindT.bindTs at e
    cases e1 : bindT t d l with
    | none => rw [e1] at e; cases e
    | some l2 =>
      rw [e1] at e
      rw [List.length_cons, List.length_cons, bindTs_len e]
theorem assignEach_ok {env : Env} : ∀ {es : List Expr}, es.all notStar = true → (assignEach es env).length = es.length ∧ (assignEach es env).findIdx? (·.1) = none
  | [], _ => ⟨rfl, rfl⟩
  | e :: es, h => by
    rw [List.all_cons, Bool.and_eq_true] at h
    obtain ⟨h1, h2⟩ := assignEach_ok (env := env) h.2
    have e0 : assignEach (e :: es) env = (false, assign e env) :: assignEach es env := by
      cases e <;> first | rfl | cases h.1
    rw [e0]
    refine ⟨by rw [List.length_cons, List.length_cons, h1], ?_⟩
    rw [List.findIdx?_cons]
    simp [h2]
theorem pgd_tup {es : List Expr} {k : Nat} {pos : Pos} {ts' : List Tg} (hc : X.calm = true) (h : PGsD X pr es ts') (hs : es.all notStar = true) (hl : ts'.length = es.length) : PGD X pr (.Tuple es k pos) (.tup ts') := by
  obtain ⟨t, ht, q⟩ := h.ex
  obtain ⟨a1, a2⟩ := assignEach_ok (env := X.env) hs
  refine ⟨_, pg_tup (n := es.length) hc ht a1 a2, fun Xs σ H l l1 M v d Q r rv e g => ?_⟩
  cases d with
  | tup ds =>
    rw [Rep] at rv
    obtain ⟨a, vs, rfl, h1, h2⟩ := rv
    have e' : bindT.bindTs ts' ds l = some l1 := by unfold bindT at e; exact e
    exact ⟨a, vs, rfl, h1.sq, by rw [h2.length, bindTs_len e', hl], q Xs σ H l l1 M vs ds Q r h2 e' g⟩
  | _ => unfold bindT at e; cases e
end
end DL

set_option Elab.async false
set_option linter.all false
set_option maxRecDepth 100000
set_option maxHeartbeats 4000000
namespace DL
open PySem PySem.Spec PyProof.Rows L2

/-! ## what is walked -/
def ItOk (K : PySem.W.Frag) (Xs : Ad) (J : It) (xs : List D) (M : Ad) (H : Hp) : Prop := ∀ M' H', Step M H M' H' → Trk (Fb Xs M') H' → ∀ i : Nat,
  (∀ d, xs[i]? = some d → J.go i H' ∧ ∀ x H'', J.yld i H' x H'' → (H'' = H' ∨ ∃ p o, H' p = none ∧ H'' = upd H' p o) ∧ Rep K (Fb Xs M') H'' x d) ∧ (xs.length ≤ i → J.stop i H')
structure PID (X : Cx) (W : WX) (xi : XI) (tg iter : Expr) (d : Loc → R (List D × Loc)) : Prop where
  ex : ∃ wi : TI, PI X tg iter wi ∧ ∀ (Xs : Ad) (σ : L2.St) (H : Hp) (l : Loc) (M : Ad) (Q : It → Hp → Prop), RepLoc X.K Xs M σ H l →
    Po ⟨X.K, Xs, W, xi, σ⟩ M H (fun xs l' M' H' => ∀ J, ItOk X.K Xs J xs M' H' → Q J H') (d l) → wi σ H Q
/-- a list or a tuple -/
def iSeq (K : PySem.W.Frag) (tl : TE) : TI := fun σ H R => tl σ H fun x H1 => (∃ a, x = .ref a ∧ (∃ xs, SqL K H1 a xs) ∧ R (Itl K a) H1) ∨ (∃ a, x = .ref a ∧ (∃ xs, SqT K H1 a xs) ∧ R (Itt K a) H1)
section
variable {X : Cx} {W : WX} {xi : XI} {Γ : Gam} {tg : Expr}
theorem pi_seq {l : Expr} {tl : TE} (hl : PE X l tl) : PI X tg l (iSeq X.K tl) := by
  refine ⟨fun pins s σ H R I h => ?_⟩
  refine thn (hl.run pins s σ H _ I h) fun v s1 ⟨x, H1, I1, r1, q1⟩ => ?_
  rcases q1 with ⟨a, e, ⟨xs, hq⟩, q⟩ | ⟨a, e, ⟨xs, hq⟩, q⟩
  · subst e
    cases r1
    obtain ⟨its, rv, p, hz⟩ := I1.list hq
    refine wpAny_pyIter_list p.isList ?_
    refine ⟨s1.heap.objs.size, [s1.heap.objs.size], _, _, H1, rfl, I1.kept (t' := s1.toks) fun b o e => Heap.get?_push_of_some _ e, turn_list a _, ⟨_, Heap.get?_push_size _ rfl, rfl, rfl⟩, fun b hb => ?_, q⟩
    have e : b = s1.heap.objs.size := by simpa using hb
    subst e
    exact I1.fpOk (Nat.le_refl _) (I1.hok.fresh (Nat.le_refl _))
  · subst e
    cases r1
    obtain ⟨its, rv, p, hz⟩ := I1.tuple hq
    refine wpAny_pyIter_tuple (show s1.heap.IsTuple a its.toArray from p) ?_
    refine ⟨s1.heap.objs.size, [s1.heap.objs.size], _, _, H1, rfl, I1.kept (t' := s1.toks) fun b o e => Heap.get?_push_of_some _ e, turn_tuple a _, ⟨_, Heap.get?_push_size _ rfl, rfl, rfl⟩, fun b hb => ?_, q⟩
    have e : b = s1.heap.objs.size := by simpa using hb
    subst e
    exact I1.fpOk (Nat.le_refl _) (I1.hok.fresh (Nat.le_refl _))
theorem it_list {K : PySem.W.Frag} {Xs M : Ad} {H : Hp} {a : Addr} {vs : List V} {ds : List D} (h : SeqL K (Fb Xs M) H a vs) (r : RepL K (Fb Xs M) H vs ds) : ItOk K Xs (Itl K a) ds M H := by
  intro M' H' st tr i
  have h' : SeqL K (Fb Xs M') H' a vs := h.move (fun b u n e => st.ext b u (fun z => n (.inr z)) e) st.fb
  have r' := r.step st
  refine ⟨fun d e => ?_, fun e => ⟨vs, h'.sq, by rw [r'.length]; exact e⟩⟩
  obtain ⟨v, e1, e2⟩ := r'.get' e
  refine ⟨⟨vs, v, h'.sq, e1⟩, fun x H'' y => ⟨.inl y.1, ?_⟩⟩
  have := y.2 vs h'.sq
  rw [e1] at this
  cases this
  rw [y.1]; exact e2
theorem it_tup {K : PySem.W.Frag} {Xs M : Ad} {H : Hp} {a : Addr} {vs : List V} {ds : List D} (h : SeqT K (Fb Xs M) H a vs) (r : RepL K (Fb Xs M) H vs ds) : ItOk K Xs (Itt K a) ds M H := by
  intro M' H' st tr i
  have h' : SeqT K (Fb Xs M') H' a vs := h.move (fun b u n e => st.ext b u (fun z => n (.inr z)) e) st.fb
  have r' := r.step st
  refine ⟨fun d e => ?_, fun e => ⟨vs, h'.sq, by rw [r'.length]; exact e⟩⟩
  obtain ⟨v, e1, e2⟩ := r'.get' e
  refine ⟨⟨vs, v, h'.sq, e1⟩, fun x H'' y => ⟨.inl y.1, ?_⟩⟩
  have := y.2 vs h'.sq
  rw [e1] at this
  cases this
  rw [y.1]; exact e2
theorem it_range {K : PySem.W.Frag} {Xs M : Ad} {H : Hp} {a b : Int} : ItOk K Xs (Itr a (b - a).toNat) (rgD a b) M H := by
  intro M' H' st tr i
  refine ⟨fun d e => ?_, fun e => ?_⟩
  · unfold rgD at e
    rw [List.getElem?_map] at e
    cases e1 : (List.range (b - a).toNat)[i]? with
    | none => rw [e1] at e; cases e
    | some j =>
      rw [e1] at e
      obtain ⟨h1, h2⟩ := List.getElem?_eq_some_iff.mp e1
      rw [List.getElem_range] at h2
      subst h2
      rw [List.length_range] at h1
      cases e
      refine ⟨h1, fun x H'' y => ⟨.inl y.1, ?_⟩⟩
      rw [y.2]; exact Rep.int _
  · unfold rgD at e
    rw [List.length_map, List.length_range] at e
    exact e
/-- the items of an iterable -/
def evI (Γ : Gam) (ik : Nat) (ies : List E) (l : Loc) : R (List D × Loc) := (evDs Γ ies l).bind fun r => match items ik r.1 with
  | none => .bad
  | some xs => .ok (xs, r.2)
theorem evDs_one (Γ : Gam) (e : E) (l : Loc) : evDs Γ [e] l = (evX Γ e l).bind fun r => .ok ([r.1.d], r.2) := by
  rw [evDs.eq_def]
  dsimp only
  cases evX Γ e l with
  | bad => rfl
  | exc x l => rfl
  | ok r => dsimp only [R.bind]; rw [evDs.eq_def]
theorem pid_seq {e : Expr} {e' : E} (h : PD X W xi e (evX Γ e')) : PID X W xi tg e (evI Γ 0 [e']) := by
  obtain ⟨t, ht, q⟩ := h.ex
  refine ⟨_, pi_seq ht, fun Xs σ H l M Q r g => ?_⟩
  unfold evI at g
  rw [evDs_one] at g
  refine q Xs σ H l M _ r (g.bind.bind.imp fun s l1 M1 H1 st1 rl1 g1 v rv => ?_)
  obtain ⟨M1', hm, rl1', rv'⟩ := RepR.frozen rl1 rv
  have g2 := (g1 M1 H1 Step.refl rl1).shift (Step.refl.less hm)
  dsimp only at g2
  cases ed : s.d with
  | lst ds =>
    rw [ed] at g2 rv'
    rw [Rep] at rv'
    obtain ⟨a, vs, rfl, h1, h2⟩ := rv'
    exact .inl ⟨a, rfl, ⟨vs, h1.sq⟩, g2 M1' H1 Step.refl rl1' _ (it_list h1 h2)⟩
  | tup ds =>
    rw [ed] at g2 rv'
    rw [Rep] at rv'
    obtain ⟨a, vs, rfl, h1, h2⟩ := rv'
    exact .inr ⟨a, rfl, ⟨vs, h1.sq⟩, g2 M1' H1 Step.refl rl1' _ (it_tup h1 h2)⟩
  | non => rw [ed] at g2; exact g2.elim
  | bl b => rw [ed] at g2; exact g2.elim
  | int b => rw [ed] at g2; exact g2.elim
  | str b => rw [ed] at g2; exact g2.elim
theorem rgOk_iff {a b : Int} (h : rgOk a b = true) : -(2 ^ 62) ≤ a ∧ a < 2 ^ 62 ∧ -(2 ^ 62) ≤ b ∧ b < 2 ^ 62 ∧ (b - a).toNat ≤ 2 ^ 24 := of_decide_eq_true h
theorem items1 {ds xs : List D} (h : items 1 ds = some xs) : ∃ n, ds = [.int n] ∧ rgOk 0 n = true ∧ xs = rgD 0 n := by
  unfold items at h
  split at h <;> first | contradiction | skip
  split at h
  · rename_i hr
    cases h
    exact ⟨_, rfl, hr, rfl⟩
  · cases h
theorem items2 {ds xs : List D} (h : items 2 ds = some xs) : ∃ a b, ds = [.int a, .int b] ∧ rgOk a b = true ∧ xs = rgD a b := by
  unfold items at h
  split at h <;> first | contradiction | skip
  split at h
  · rename_i hr
    cases h
    exact ⟨_, _, rfl, hr, rfl⟩
  · cases h
theorem pid_rg1 {e : Expr} {e' : E} {p pos : Pos} (hg : Gl X "range") (hm : X.mg "range" = none) (h : PLD X W xi [e] (evDs Γ [e'])) (hs : notStar e = true) : PID X W xi tg (.Call (.Name "range" p) [e] [] pos) (evI Γ 1 [e']) := by
  obtain ⟨t, ht, q⟩ := h.ex
  refine ⟨_, pi_range1 hg hm ht (by rw [starEach_cons hs]; rfl), fun Xs σ H l M Q r g => ?_⟩
  unfold evI at g
  refine q Xs σ H l M _ r (g.bind.imp fun ds l1 M1 H1 st1 rl1 g1 vs rv => ?_)
  dsimp only at g1
  split at g1
  · exact g1.elim
  · rename_i xs e1
    obtain ⟨n, rfl, hr, rfl⟩ := items1 e1
    obtain ⟨_, _, h3, h4, _⟩ := rgOk_iff hr
    rw [RepL] at rv
    obtain ⟨v, rs, rfl, h1, h2⟩ := rv
    rw [RepL] at h2
    subst h2
    have ev : v = .int n := by simpa [Rep] using h1
    subst ev
    refine ⟨n, rfl, h3, h4, g1 M1 H1 Step.refl rl1 _ ?_⟩
    have := it_range (K := X.K) (Xs := Xs) (M := M1) (H := H1) (a := 0) (b := n)
    rw [Int.sub_zero] at this
    exact this
theorem pid_rg2 {e f : Expr} {e' f' : E} {p pos : Pos} (hg : Gl X "range") (hm : X.mg "range" = none) (h : PLD X W xi [e, f] (evDs Γ [e', f'])) (hs : notStar e = true) (hs2 : notStar f = true) : PID X W xi tg (.Call (.Name "range" p) [e, f] [] pos) (evI Γ 2 [e', f']) := by
  obtain ⟨t, ht, q⟩ := h.ex
  refine ⟨_, pi_range2 hg hm ht (by rw [starEach_cons hs, starEach_cons hs2]; rfl) (by rw [starEach_cons hs2]; rfl), fun Xs σ H l M Q r g => ?_⟩
  unfold evI at g
  refine q Xs σ H l M _ r (g.bind.imp fun ds l1 M1 H1 st1 rl1 g1 vs rv => ?_)
  dsimp only at g1
  split at g1
  · exact g1.elim
  · rename_i xs e1
    obtain ⟨a, b, rfl, hr, rfl⟩ := items2 e1
    obtain ⟨h5, h6, h3, h4, _⟩ := rgOk_iff hr
    rw [RepL] at rv
    obtain ⟨v, rs, rfl, h1, h2⟩ := rv
    rw [RepL] at h2
    obtain ⟨w, rs, rfl, h7, h8⟩ := h2
    rw [RepL] at h8
    subst h8
    have ev : v = .int a := by simpa [Rep] using h1
    have ew : w = .int b := by simpa [Rep] using h7
    subst ev ew
    exact ⟨a, b, rfl, ⟨h5, h6, h3, h4⟩, g1 M1 H1 Step.refl rl1 _ it_range⟩
end

/-! ## loops -/
section
variable {X : Cx} {W : WX} {xi : XI} {Γ : Gam} {pr : List Nat} {tg iter : Expr} {body : List Stmt} {pos : Pos}
theorem RepLoc.heap {K : PySem.W.Frag} {Xs M : Ad} {σ : L2.St} {H H' : Hp} {l : Loc} (r : RepLoc K Xs M σ H l) (h : H' = H ∨ ∃ p o, H p = none ∧ H' = upd H p o) : Step M H M H' ∧ RepLoc K Xs M σ H' l := by
  rcases h with rfl | ⟨p, o, n, rfl⟩
  · exact ⟨Step.refl, r⟩
  · exact ⟨Step.new n, r.new n⟩
theorem RepLoc.trk' {K : PySem.W.Frag} {Xs M : Ad} {σ : L2.St} {H : Hp} {l : Loc} (r : RepLoc K Xs M σ H l) : Trk (Fb Xs M) H := fun a z e => by
  obtain ⟨vs, q⟩ := r.trk a z
  rw [e] at q; cases q
theorem psd_for {t' : Tg} {ik : Nat} {ies : List E} {b' : List S} (hp : PassesOwn (model X.prog X.w) X.A X.env X.xe) (hc : X.calm = true) (hi : PID X W xi tg iter (evI Γ ik ies)) (hg : PGD X pr tg t') (hb : PBD X W xi pr body (exB Γ b')) (hfs : ∀ x, foldedSetIterable iter X.env x = pure x) :
    PSD X W xi pr (.For tg iter body [] pos) (exS Γ (.fer t' ik ies b')) := by
  obtain ⟨wi, hwi, qi⟩ := hi.ex
  obtain ⟨g, hg', qg⟩ := hg.ex
  obtain ⟨tb, htb, qb⟩ := hb.ex
  refine ⟨_, ps_for hp hc hwi hg' htb hfs, fun Xs σ H l M D r k => ?_⟩
  have e0 : exS Γ (.fer t' ik ies b') l = (evI Γ ik ies l).bind fun r => forL (bindT t') (exB Γ b') r.1 r.2 := by
    rw [exS.eq_def]
    unfold evI
    dsimp only
    cases evDs Γ ies l with
    | bad => rfl
    | exc x l => rfl
    | ok r =>
      dsimp only [R.bind]
      cases items ik r.1 <;> rfl
  rw [e0] at k
  refine qi Xs σ H l M _ r (k.bind.imp fun xs l1 M1 H1 st1 rl1 k1 J hJ => ?_)
  dsimp only [Cs.cf] at k1 rl1
  refine ⟨fun i m σ2 H2 => m = xs.length - i ∧ i ≤ xs.length ∧ ∃ M2 l2, Step M1 H1 M2 H2 ∧ Keep pr σ σ2 ∧ RepLoc X.K Xs M2 σ2 H2 l2 ∧ PoS ⟨X.K, Xs, W, xi, pr⟩ σ2 M2 H2 D (forL (bindT t') (exB Γ b') (xs.drop i) l2), ⟨xs.length, by omega, Nat.zero_le _, M1, l1, Step.refl, Keep.refl, rl1, k1⟩, ?_⟩
  rintro i m σ2 H2 ⟨rfl, hi, M2, l2, st2, kp2, rl2, k2⟩
  obtain ⟨J1, J2⟩ := hJ M2 H2 st2 rl2.trk' i
  by_cases hlt : i < xs.length
  · rw [List.drop_eq_getElem_cons hlt] at k2
    unfold forL at k2
    obtain ⟨go, yl⟩ := J1 _ (List.getElem?_eq_getElem hlt)
    cases e1 : bindT t' xs[i] l2 with
    | none => rw [e1] at k2; exact k2.elim
    | some l3 =>
      rw [e1] at k2
      dsimp only at k2
      refine .inr ⟨go, fun σ' H' => ∃ M' l', Step M1 H1 M' H' ∧ Keep pr σ σ' ∧ RepLoc X.K Xs M' σ' H' l' ∧ PoS ⟨X.K, Xs, W, xi, pr⟩ σ' M' H' D (forL (bindT t') (exB Γ b') (xs.drop (i + 1)) l'), fun σ' H' ⟨M', l', q1, q2, q3, q4⟩ => ⟨xs.length - (i + 1), by omega, rfl, hlt, M', l', q1, q2, q3, q4⟩, fun x H3 y => ?_⟩
      obtain ⟨hh, rx⟩ := yl x H3 y
      obtain ⟨st3, rl3⟩ := rl2.heap hh
      refine qg Xs σ2 H3 l2 l3 M2 x _ _ rl3 rx e1 fun σ3 rl4 kp4 => ?_
      refine qb Xs σ3 H3 l3 M2 _ rl4 ?_
      have k3 := k2.shift st3 kp4
      have st5 := st2.trans st3
      have kp5 := kp2.trans kp4
      cases eb : exB Γ b' l3 with
      | bad => rw [eb] at k3; exact k3.elim
      | exc x l => rw [eb] at k3; exact k3
      | ok r =>
        obtain ⟨f, l4⟩ := r
        rw [eb] at k3
        cases f with
        | nx => exact fun σ' M' H' s' r' kk => ⟨M', l4, st5.trans s', kp5.trans kk, r', PoS.shift (show PoS _ σ3 M2 H3 D (forL (bindT t') (exB Γ b') (xs.drop (i + 1)) l4) from k3) s' kk⟩
        | cnt => exact fun σ' M' H' s' r' kk => ⟨M', l4, st5.trans s', kp5.trans kk, r', PoS.shift (show PoS _ σ3 M2 H3 D (forL (bindT t') (exB Γ b') (xs.drop (i + 1)) l4) from k3) s' kk⟩
        | brk => exact k3
        | ret s => exact k3
  · have e : i = xs.length := by omega
    subst e
    refine .inl ⟨J2 (Nat.le_refl _), ?_⟩
    rw [List.drop_length] at k2
    unfold forL at k2
    exact k2 σ2 M2 H2 Step.refl rl2 Keep.refl
theorem psd_whl {c : Expr} {c' : E} {b' : List S} (hp : PassesOwn (model X.prog X.w) X.A X.env X.xe) (hc : PTD X W xi c (evT Γ c')) (hb : PBD X W xi pr body (exB Γ b')) : PSD X W xi pr (.While c body [] pos) (exS Γ (.whl c' b')) := by
  obtain ⟨tc, htc, qc⟩ := hc.ex
  obtain ⟨tb, htb, qb⟩ := hb.ex
  refine ⟨_, ps_while hp htc htb, fun Xs σ H l M D r k => ?_⟩
  rw [exS.eq_def] at k
  dsimp only at k
  generalize whileFuel = n at k
  refine ⟨fun m σ2 H2 => ∃ M2 l2, Step M H M2 H2 ∧ Keep pr σ σ2 ∧ RepLoc X.K Xs M2 σ2 H2 l2 ∧ PoS ⟨X.K, Xs, W, xi, pr⟩ σ2 M2 H2 D (whileL (evT Γ c') (exB Γ b') m l2), ⟨n, M, l, Step.refl, Keep.refl, r, k⟩, ?_⟩
  rintro m σ2 H2 ⟨M2, l2, st2, kp2, rl2, k2⟩
  cases m with
  | zero => unfold whileL at k2; exact k2.elim
  | succ m =>
    unfold whileL at k2
    refine qc Xs σ2 H2 l2 M2 _ rl2 (k2.bind.imp fun b l3 M3 H3 st3 rl3 k3 => ?_)
    dsimp only at k3
    cases b with
    | false => exact k3 σ2 M3 H3 Step.refl rl3 Keep.refl
    | true =>
      rw [if_pos rfl]
      refine ⟨fun σ' H' => ∃ M' l', Step M H M' H' ∧ Keep pr σ σ' ∧ RepLoc X.K Xs M' σ' H' l' ∧ PoS ⟨X.K, Xs, W, xi, pr⟩ σ' M' H' D (whileL (evT Γ c') (exB Γ b') m l'), fun σ' H' ⟨M', l', q1, q2, q3, q4⟩ => ⟨m, Nat.lt_succ_self _, M', l', q1, q2, q3, q4⟩, ?_⟩
      refine qb Xs σ2 H3 l3 M3 _ rl3 ?_
      rw [if_pos rfl] at k3
      have st5 := st2.trans st3
      cases eb : exB Γ b' l3 with
      | bad => rw [eb] at k3; exact k3.elim
      | exc x l => rw [eb] at k3; exact k3
      | ok r =>
        obtain ⟨f, l4⟩ := r
        rw [eb] at k3
        cases f with
        | nx => exact fun σ' M' H' s' r' kk => ⟨M', l4, st5.trans s', kp2.trans kk, r', PoS.shift (show PoS _ σ2 M3 H3 D (whileL (evT Γ c') (exB Γ b') m l4) from k3) s' kk⟩
        | cnt => exact fun σ' M' H' s' r' kk => ⟨M', l4, st5.trans s', kp2.trans kk, r', PoS.shift (show PoS _ σ2 M3 H3 D (whileL (evT Γ c') (exB Γ b') m l4) from k3) s' kk⟩
        | brk => exact k3
        | ret s => exact k3
end
end DL

set_option Elab.async false
set_option linter.all false
set_option maxRecDepth 100000
set_option maxHeartbeats 4000000
namespace DL
open PySem PySem.Spec PyProof.Rows L2

/-! ## small statements -/
def notComp : Expr → Bool
  | .ListComp .. | .SetComp .. | .DictComp .. => false
  | _ => true
theorem swapsWith_no {e : Expr} {t : Option Expr} {n : Nat} {env : PySem.Env} (h : notComp e = true) : swapsWith e t n env = pure false := by
  cases e <;> first | rfl | cases h
def isName : Expr → Bool
  | .Name .. => true
  | _ => false
section
variable {X : Cx} {W : WX} {xi : XI} {Γ : Gam} {pr : List Nat} {pos : Pos}
theorem psd_set {i : Nat} {x : Str} {px : Pos} {e : Expr} {e' : E} (hN : X.N.Nodup) (hi : X.N[i]? = some x) (hx : L2.Loc X.env.scope x) (hf : X.fn x = true ∨ X.env.scope.names.lookup x = some .local) (hp : i ∉ pr) (h : PD X W xi e (evX Γ e')) (hc : notComp e = true) :
    PSD X W xi pr (.Assign [.Name x px] e pos) (exS Γ (.set i e')) := by
  obtain ⟨t, ht, q⟩ := h.ex
  refine ⟨_, ps_set hN hi hx ht (swapsWith_no hc) hf, fun Xs σ H l M D r k => ?_⟩
  rw [exS.eq_def] at k
  refine q Xs σ H l M _ r (k.bind.imp fun s l1 M1 H1 st1 rl1 k1 v rv => ?_)
  dsimp only [Cs.cf] at k1 rl1
  split at k1
  · rename_i hl
    exact k1 _ M1 H1 Step.refl (rl1.set hl rv) fun j hj => List.getElem?_set_ne (fun z => hp (by rw [z]; exact hj))
  · exact k1.elim
theorem swSole {tg e : Expr} {n : Nat} {env : PySem.Env} (h : notComp e = true) : swapsWithSole [tg] e n env = pure false := swapsWith_no h
def asgOk : Expr → Expr → Bool
  | .Tuple _ _ _, .Tuple _ _ _ => false
  | .Tuple _ _ _, e => notComp e
  | _, _ => false
theorem asgOk_ok {tg e : Expr} {env : PySem.Env} {n : Nat} (h : asgOk tg e = true) : swappedStores [tg] e env = pure none ∧ swapsWithSole [tg] e n env = pure false ∧ (assignEach [tg] env).map (·.2) = [assign tg env] := by
  cases tg <;> first | (exfalso; revert h; simp [asgOk]; done) | skip
  cases e <;> first | (exfalso; revert h; simp [asgOk, notComp]; done) | exact ⟨rfl, rfl, rfl⟩
theorem psd_asg {tg e : Expr} {t' : Tg} {e' : E} (hg : PGD X pr tg t') (h : PD X W xi e (evX Γ e')) (ho : asgOk tg e = true) : PSD X W xi pr (.Assign [tg] e pos) (exS Γ (.asg t' e')) := by
  obtain ⟨t, ht, q⟩ := h.ex
  obtain ⟨g, hg', qg⟩ := hg.ex
  obtain ⟨h1, h2, h3⟩ := asgOk_ok (env := X.env) (n := pos.line) ho
  refine ⟨_, ps_asg ht hg' h2 h1 h3, fun Xs σ H l M D r k => ?_⟩
  rw [exS.eq_def] at k
  refine q Xs σ H l M _ r (k.bind.imp fun s l1 M1 H1 st1 rl1 k1 v rv => ?_)
  dsimp only [Cs.cf] at k1 rl1 rv
  obtain ⟨M1', hm, rl1', rv'⟩ := RepR.frozen rl1 rv
  cases e1 : bindT t' s.d l1 with
  | none => rw [e1] at k1; exact k1.elim
  | some l2 =>
    rw [e1] at k1
    exact qg Xs σ H1 l1 l2 M1' v s.d _ rl1' rv' e1 fun σ2 r2 kp => k1 σ2 M1' H1 (Step.refl.less hm) r2 kp
/-- a, b = x, y -/
def notStarL (vs : List Expr) : Bool := vs.all notStar
theorem sw2 {x y : Str} {px py pt p2 : Pos} {kt k2 : Nat} {a b : Expr} {env : PySem.Env} (hb : env.blockKind = .function) (hx : env.kindOf x = some .local) (hy : env.kindOf y = some .local) (hl : (px.line == py.line) = true) (hxy : (x == y) = false) (hs : notStar a = true) (hs2 : notStar b = true)
    (hf : [a, b].all (foldedForSure 8) = false) (hc : [a, b].all (constantsAlone 8) = false) : swappedStores [.Tuple [.Name x px, .Name y py] kt pt] (.Tuple [a, b] k2 p2) env = pure (some [x, y]) := by
  have st1 : ∀ e : Expr, notStar e = true → (match e with | .Starred .. => true | _ => false) = false := fun e h => by
    cases e <;> first | rfl | cases h
  have hst : ([a, b].any fun | .Starred .. => true | _ => false) = false := by
    simp only [List.any_cons, List.any_nil, Bool.or_false]
    exact Bool.or_eq_false_iff.mpr ⟨st1 a hs, st1 b hs2⟩
  have hl' : py.line = px.line := (eq_of_beq hl).symm
  have hyx : (y == x) = false := by
    cases e : (y == x) with
    | false => rfl
    | true => rw [eq_of_beq e] at hxy; simp at hxy
  have hk : (env.kindOf x == some NameKind.local) = true := by rw [hx]; rfl
  have hk2 : (env.kindOf y == some NameKind.local) = true := by rw [hy]; rfl
  have hnm : List.filterMap (fun x_1 : Expr => match x_1 with
      | Expr.Name id pos => if (env.kindOf id == some NameKind.local && pos.line == (Option.map (fun x : Expr => x.pos.line) [Expr.Name x px, Expr.Name y py].head?).getD 0) = true then some id else none
      | x => none) [Expr.Name x px, Expr.Name y py] = [x, y] := by
    simp only [List.head?_cons, Option.map_some, Option.getD_some, Expr.pos, List.filterMap_cons, List.filterMap_nil, hk, hk2, hl', beq_self_eq_true, Bool.and_self, if_true]
  have hd : [x, y].eraseDups = [x, y] := by
    simp [List.eraseDups_cons, hyx]
  unfold swappedStores
  dsimp only
  rw [if_neg (by rw [hb]; exact Bool.false_ne_true)]
  refine (if_neg ?h1).trans ?_
  case h1 => exact fun h => Bool.false_ne_true (hst.symm.trans h)
  have key : ∀ l1 : List Str, l1 = [x, y] → (if (l1.length != [Expr.Name x px, Expr.Name y py].length || l1.eraseDups.length != l1.length) = true then (pure none : Sem (Option (List Str)))
      else if [a, b].all (foldedForSure 8) = true then pure none else if [a, b].all (constantsAlone 8) = true then do unsupported "assign.tuple-of-constant-expressions:order-of-the-stores"; pure (some l1) else pure (some l1)) = pure (some [x, y]) := fun l1 e => by
    subst e
    rw [hd, if_neg (by exact Bool.false_ne_true), hf, if_neg Bool.false_ne_true, hc, if_neg Bool.false_ne_true]
  exact key _ hnm
end
end DL

set_option Elab.async false
set_option linter.all false
set_option maxRecDepth 100000
set_option maxHeartbeats 4000000
namespace DL
open PySem PySem.Spec PyProof.Rows L2

section
variable {X : Cx} {W : WX} {xi : XI} {Γ : Gam} {pr : List Nat} {pos : Pos}
theorem evDs_two (Γ : Gam) (e f : E) (l : Loc) : evDs Γ [e, f] l = (evX Γ e l).bind fun r => (evX Γ f r.2).bind fun r2 => .ok ([r.1.d, r2.1.d], r2.2) := by
  rw [evDs.eq_def]
  dsimp only
  cases evX Γ e l with
  | bad => rfl
  | exc x l => rfl
  | ok r =>
    dsimp only [R.bind]
    rw [evDs_one]
    cases evX Γ f r.2 <;> rfl
/-- a, b = e, f -/
theorem psd_par {i j : Nat} {x y : Str} {a b : Expr} {as' : List E} {px py pt pt2 : Pos} {kt k2 : Nat} (hc : X.calm = true) (hN : X.N.Nodup) (hi : X.N[i]? = some x) (hj : X.N[j]? = some y) (hij : i ≠ j)
    (hx : X.env.scope.names.lookup x = some .local) (hy : X.env.scope.names.lookup y = some .local) (h : PLD X W xi [a, b] (evDs Γ as')) (hpi : i ∉ pr) (hpj : j ∉ pr)
    (hw : swappedStores [.Tuple [.Name x px, .Name y py] kt pt] (.Tuple [a, b] k2 pt2) X.env = pure (some [x, y])) :
    PSD X W xi pr (.Assign [.Tuple [.Name x px, .Name y py] kt pt] (.Tuple [a, b] k2 pt2) pos) (exS Γ (.par [i, j] as')) := by
  obtain ⟨t, ht, q⟩ := h.ex
  refine ⟨_, ps_par hc hN hi hj hij hx hy ht hw rfl, fun Xs σ H l M D r k => ?_⟩
  rw [exS.eq_def] at k
  refine q Xs σ H l M _ r (k.bind.imp fun ds l1 M1 H1 st1 rl1 k1 vs rv => ?_)
  dsimp only [Cs.cf] at k1 rl1
  cases e1 : setAll l1 [i, j] ds with
  | none => rw [e1] at k1; exact k1.elim
  | some l2 =>
    rw [e1] at k1
    match ds, e1 with
    | [d, e], e1 =>
      unfold setAll setAll at e1
      rw [RepL] at rv
      obtain ⟨v, rs, rfl, h1, h2⟩ := rv
      rw [RepL] at h2
      obtain ⟨w, rs, rfl, h3, h4⟩ := h2
      rw [RepL] at h4
      subst h4
      refine ⟨v, w, rfl, ?_⟩
      split at e1
      · rename_i hl1
        split at e1
        · rename_i hl2
          unfold setAll at e1
          cases e1
          have r1 := rl1.set (s := .val d) hl1 h1
          have r2 := r1.set (s := .val e) hl2 h3
          exact k1 _ M1 H1 Step.refl r2 fun m hm => by
            rw [List.getElem?_set_ne (fun z => hpj (by rw [z]; exact hm)), List.getElem?_set_ne (fun z => hpi (by rw [z]; exact hm))]
        · cases e1
      · cases e1
    | [], e1 => unfold setAll at e1; cases e1
    | [d], e1 => unfold setAll setAll at e1; split at e1 <;> cases e1
    | d :: e :: f :: ds, e1 => unfold setAll setAll setAll at e1; split at e1 <;> (try split at e1) <;> cases e1
/-- op=, ints alone -/
def RA (p : Prim) : R2 := fun x y H Q => ∃ i j z, x = .int i ∧ y = .int j ∧ augD p (.int i) (.int j) = some z ∧ Q (.int z) H
theorem augD_int {p : Prim} {d e : D} {z : Int} (h : augD p d e = some z) : ∃ i j, d = .int i ∧ e = .int j := by
  unfold augD at h
  split at h <;> first | exact ⟨_, _, rfl, rfl⟩ | cases h
def augP : Operator → Option Prim
  | .Add => some .add | .Sub => some .sub | .Mult => some .mul | _ => none
theorem augP_ok {op : Operator} {p : Prim} (h : augP op = some p) : PIp X op (RA p) := by
  intro pins s σ H x y v u Q I rx ry h'
  obtain ⟨i, j, z, e1, e2, e3, q⟩ := h'
  cases op <;> cases h
  · unfold augD at e3; cases e3
    exact iop_add pins s σ H x y v u Q I rx ry ⟨i, j, e1, e2, q⟩
  · unfold augD at e3; cases e3
    exact iop_sub pins s σ H x y v u Q I rx ry ⟨i, j, e1, e2, q⟩
  · unfold augD at e3
    dsimp only at e3
    split at e3
    · rename_i hc
      cases e3
      have hc' : CMul i j := by
        simp only [Bool.or_eq_true, decide_eq_true_eq] at hc
        exact hc
      exact iop_mul pins s σ H x y v u Q I rx ry ⟨i, j, e1, e2, hc', q⟩
    · cases e3
theorem res_at {K : PySem.W.Frag} {Xs M : Ad} {σ : L2.St} {H : Hp} {l : Loc} {i : Nat} {d : D} (r : RepLoc K Xs M σ H l) (e : res l (.pos i) = some d) : ∃ v, σ[i]? = some (some v) ∧ Pk K (Fb Xs M) H v d := by
  have h1 : ∃ v, σ[i]? = some (some v) := by
    rw [res_pos] at e
    split at e
    · rename_i _ e2
      obtain ⟨w, h1, _⟩ := r.val i _ e2
      exact ⟨w, h1⟩
    · rename_i _ e2
      obtain ⟨a, vs, h1, _⟩ := r.own i _ e2
      exact ⟨_, h1⟩
    · cases e
  obtain ⟨v, h1⟩ := h1
  exact ⟨v, h1, RepA.pk (C := ⟨K, Xs, fun _ _ _ _ => True, fun _ _ _ _ => True, σ⟩) (a := .pos i) r h1 e⟩
theorem psd_aug {i : Nat} {x : Str} {px : Pos} {e : Expr} {e' : E} {op : Operator} {p : Prim} (hN : X.N.Nodup) (hi : X.N[i]? = some x) (hx : L2.Loc X.env.scope x) (hf : X.fn x = true ∨ X.env.scope.names.lookup x = some .local) (hp : i ∉ pr) (h : PD X W xi e (evX Γ e')) (ho : augP op = some p) :
    PSD X W xi pr (.AugAssign (.Name x px) op e pos) (exS Γ (.aug i p e')) := by
  obtain ⟨t, ht, q⟩ := h.ex
  refine ⟨_, ps_aug hN hi hx ht (augP_ok ho) hf, fun Xs σ H l M D r k => ?_⟩
  rw [exS.eq_def] at k
  dsimp only at k
  cases e0 : res l (.pos i) with
  | none => rw [e0] at k; exact k.elim
  | some d0 =>
    rw [e0] at k
    obtain ⟨v0, h0, _⟩ := res_at r e0
    refine ⟨v0, h0, q Xs σ H l M _ r (PoS.bind k |>.imp fun s l1 M1 H1 st1 rl1 k1 v rv => ?_)⟩
    dsimp only [Cs.cf] at k1 rl1 rv
    cases e1 : res l1 (.pos i) with
    | none => rw [e1] at k1; exact k1.elim
    | some d =>
      rw [e1] at k1
      obtain ⟨v1, h1, p1⟩ := res_at rl1 e1
      rw [h0] at h1
      have : v1 = v0 := by simpa using h1.symm
      subst this
      dsimp only at k1
      cases e2 : augD p d s.d with
      | none => rw [e2] at k1; exact k1.elim
      | some z =>
        rw [e2] at k1
        obtain ⟨a, b, rfl, eb⟩ := augD_int e2
        have p2 := RepR.pkd rv
        rw [eb] at p2 e2
        refine ⟨a, b, z, p1.int', p2.int', e2, ?_⟩
        dsimp only at k1
        split at k1
        · rename_i hl
          exact k1 _ M1 H1 Step.refl (rl1.set (s := .val (.int z)) hl (RepR.ofVal (Rep.int _))) fun j hj => List.getElem?_set_ne (fun z => hp (by rw [z]; exact hj))
        · exact k1.elim
theorem ownAt_some {l : Loc} {i : Nat} {ds : List D} (h : ownAt l i = some ds) : l[i]? = some (.own ds) := by
  unfold ownAt at h
  split at h
  · rename_i e; cases h; exact e
  · cases h
theorem subAssign_ok {o i : Expr} {pos : Pos} {env : PySem.Env} (h : plainIx i = true) : ∀ v, assign (.Subscript o i pos) env v = (do
      let ov ← holding [v] (eval o env)
      let iv ← holding [v, ov] (eval i env)
      standAt pos
      holding [v, ov, iv] (setItem ov iv v)
      release [v, ov, iv] []) := by
  intro v
  cases i <;> first | rfl | cases h
/-- x[k] = e -/
theorem psd_setix {i : Nat} {x : Str} {px ps : Pos} {kx e : Expr} {k' e' : E} (hv : PE X (.Name x px) (tVar i)) (hk : PD X W xi kx (evX Γ k')) (he : PD X W xi e (evX Γ e')) (hc : notComp e = true) (hpl : plainIx kx = true) :
    PSD X W xi pr (.Assign [.Subscript (.Name x px) kx ps] e pos) (exS Γ (.setix i k' e')) := by
  obtain ⟨t, ht, q⟩ := he.ex
  obtain ⟨u, hu, o⟩ := hk.ex
  have hsw : swapsWithSole [.Subscript (.Name x px) kx ps] e pos.line X.env = pure false := swSole hc
  have hss : swappedStores [.Subscript (.Name x px) kx ps] e X.env = pure none := by cases e <;> rfl
  refine ⟨_, ps_asg ht (pg_sub hv hu set_list (subAssign_ok hpl)) hsw hss rfl, fun Xs σ H l M D r k => ?_⟩
  rw [exS.eq_def] at k
  refine q Xs σ H l M _ r (k.bind.imp fun s l1 M1 H1 st1 rl1 k1 v rv => ?_)
  dsimp only [Cs.cf] at k1 rl1 rv
  obtain ⟨M1', hm, rl1', rv'⟩ := RepR.frozen rl1 rv
  have k2 := k1.shift (Step.refl.less hm) Keep.refl
  cases e1 : ownAt l1 i with
  | none => rw [e1] at k2; exact k2.elim
  | some ds0 =>
    rw [e1] at k2
    obtain ⟨a, vs, g1, g2, g3, g4⟩ := rl1'.own i _ (ownAt_some e1)
    refine ⟨.ref a, g1, o Xs σ H1 l1 M1' _ rl1' (PoS.bind k2 |>.imp fun s2 l2 M2 H2 st2 rl2 k3 w rw2 => ?_)⟩
    dsimp only [Cs.cf] at k3 rl2 rw2
    cases e2 : ownAt l2 i with
    | none => rw [e2] at k3; exact k3.elim
    | some ds =>
      rw [e2] at k3
      cases e3 : s2.d with
      | int j =>
        rw [e3] at k3
        dsimp only at k3
        cases e4 : ixN ds.length j with
        | none => rw [e4] at k3; exact k3.elim
        | some m =>
          rw [e4] at k3
          have hw : w = .int j := by
            have := RepR.pkd rw2
            rw [e3] at this
            exact this.int'
          subst hw
          have ow := ownAt_some e2
          obtain ⟨b, ws, q1, q2, q3, q4⟩ := rl2.own i _ ow
          rw [g1] at q1
          have : a = b := by simpa using q1
          subst this
          have rv2 : Rep X.K (Fb Xs M2) H2 v s.d := rv'.step st2
          obtain ⟨st3, rl3⟩ := rl2.put ow g1 (q4.set m rv2)
          exact ⟨a, ws, j, m, rfl, rfl, q3, by rw [q4.length]; exact e4, k3 σ M2 _ st3 rl3 Keep.refl⟩
      | _ => rw [e3] at k3; exact k3.elim
/-- x[k], a list, by values -/
def RGet (K : PySem.W.Frag) : V → V → Hp → VK → Prop := fun x y H Q => ∃ p xs i v, x = .ref p ∧ y = .int i ∧ SqL K H p xs ∧ atI xs i = some v ∧ Q v H
theorem get_list : PGet X (RGet X.K) := by
  intro pins s σ H o i ov iv Q I ro ri h
  obtain ⟨p, xs, j, z, rfl, rfl, hq, he, q⟩ := h
  cases ro
  obtain ⟨t, rfl⟩ := ri
  obtain ⟨its, r, pl, hz⟩ := I.list hq
  obtain ⟨m, h1, h2, h3, h4, h5⟩ := atI_get he
  obtain ⟨w, ew, rw'⟩ := r.get h2
  have hl := r.length
  have hn := line63
  have fin : EP X pins σ Q w s := ⟨z, H, I, rw', q⟩
  by_cases h0 : 0 ≤ j
  · have hj : j.toNat = m := by
      rw [seqIndex_of h0 h5] at h1
      exact Option.some.inj h1
    exact wpAny_getItem_list pl.isList h0 (by omega) (by rw [hj]; simpa using ew) fin
  · have hj : (j + (its.toArray.size : Int)).toNat = m := by
      rw [seqIndex_neg (by omega) h4] at h1
      rw [List.size_toArray, ← hl]
      exact Option.some.inj h1
    exact wpAny_getItem_list_neg pl.isList (by omega) (by rw [List.size_toArray] <;> omega) (by omega) (by rw [hj]; simpa using ew) fin
theorem augStore_ok {i : Expr} (h : plainIx i = true) : ∀ ov iv new, augStore i ov iv new = (do holding [new, ov, iv] (setItem ov iv new); release [new, ov, iv] []; pure .next) := by
  intro ov iv new
  cases i <;> first | rfl | cases h
/-- x[k] op= e -/
theorem psd_augix {i : Nat} {x : Str} {px ps : Pos} {kx e : Expr} {k' e' : E} {op : Operator} {p : Prim} (hv : PE X (.Name x px) (tVar i)) (hk : PD X W xi kx (evX Γ k')) (he : PD X W xi e (evX Γ e')) (hpl : plainIx kx = true) (ho : augP op = some p) :
    PSD X W xi pr (.AugAssign (.Subscript (.Name x px) kx ps) op e pos) (exS Γ (.augix i k' p e')) := by
  obtain ⟨t, ht, q⟩ := he.ex
  obtain ⟨u, hu, o⟩ := hk.ex
  refine ⟨_, ps_augS hv hu get_list ht (augP_ok ho) set_list (augStore_ok hpl), fun Xs σ H l M D r k => ?_⟩
  rw [exS.eq_def] at k
  dsimp only at k
  cases e0 : ownAt l i with
  | none => rw [e0] at k; exact k.elim
  | some ds0 =>
    rw [e0] at k
    obtain ⟨a, vs, g1, g2, g3, g4⟩ := r.own i _ (ownAt_some e0)
    refine ⟨.ref a, g1, o Xs σ H l M _ r (PoS.bind k |>.imp fun s l1 M1 H1 st1 rl1 k1 w rw1 => ?_)⟩
    dsimp only [Cs.cf] at k1 rl1 rw1
    cases e1 : ownAt l1 i with
    | none => rw [e1] at k1; exact k1.elim
    | some ds =>
      rw [e1] at k1
      cases e3 : s.d with
      | int j =>
        rw [e3] at k1
        dsimp only at k1
        cases e4 : atI ds j with
        | none => rw [e4] at k1; exact k1.elim
        | some d =>
          rw [e4] at k1
          have hw : w = .int j := by
            have := RepR.pkd rw1
            rw [e3] at this
            exact this.int'
          subst hw
          obtain ⟨b, ws, q1, q2, q3, q4⟩ := rl1.own i _ (ownAt_some e1)
          rw [g1] at q1
          have : a = b := by simpa using q1
          subst this
          obtain ⟨z, z1, z2⟩ := atI_map q4 e4
          -- drop what the index may have made its own
          refine ⟨a, ws, j, z, rfl, rfl, .inl (.inl q3), z1, q Xs σ H1 l1 M1 _ rl1 (PoS.bind k1 |>.imp fun s2 l2 M2 H2 st2 rl2 k2 y ry => ?_)⟩
          dsimp only [Cs.cf] at k2 rl2 ry
          cases e5 : ownAt l2 i with
          | none => rw [e5] at k2; exact k2.elim
          | some ds1 =>
            rw [e5] at k2
            cases e6 : augD p d s2.d with
            | none => rw [e6] at k2; exact k2.elim
            | some n =>
              rw [e6] at k2
              dsimp only at k2
              cases e7 : ixN ds1.length j with
              | none => rw [e7] at k2; exact k2.elim
              | some m =>
                rw [e7] at k2
                obtain ⟨c1, c2, rfl, eb⟩ := augD_int e6
                have p2 := RepR.pkd ry
                rw [eb] at p2 e6
                refine ⟨c1, c2, n, by simpa [Rep] using z2, p2.int', e6, ?_⟩
                have ow := ownAt_some e5
                obtain ⟨b, us, t1, t2, t3, t4⟩ := rl2.own i _ ow
                rw [g1] at t1
                have : a = b := by simpa using t1
                subst this
                obtain ⟨st3, rl3⟩ := rl2.put ow g1 (t4.set m (Rep.int n))
                exact ⟨a, us, j, m, rfl, rfl, t3, by rw [t4.length]; exact e7, k2 σ M2 _ st3 rl3 Keep.refl⟩
      | _ => rw [e3] at k1; exact k1.elim
/-- x.append(e) -/
theorem psd_app {i : Nat} {x : Str} {px pa pc : Pos} {e : Expr} {e' : E} (hv : PE X (.Name x px) (tVar i)) (he : PD X W xi e (evX Γ e')) (hs : notStar e = true) (hl : (pa.endLine == pc.line) = true) :
    PSD X W xi pr (.Expr (.Call (.Attribute (.Name x px) "append" pa) [e] [] pc) pos) (exS Γ (.app i e')) := by
  obtain ⟨t, ht, q⟩ := he.ex
  have se := starEach_cons (es := []) (env := X.env) hs
  have hpa : PA X [e] (tCons t tNil) := pa_cons ht pa_nil se
  refine ⟨_, ps_expr (pe_bm PySem.F.plainAttrs_list PySem.F.slot_list_append PySem.F.type_list_append mt_append hv hpa rfl (by rw [se]; rfl) hl se rfl) rfl, fun Xs σ H l M D r k => ?_⟩
  rw [exS.eq_def] at k
  dsimp only at k
  cases e0 : ownAt l i with
  | none => rw [e0] at k; exact k.elim
  | some ds0 =>
    rw [e0] at k
    obtain ⟨a, vs, g1, g2, g3, g4⟩ := r.own i _ (ownAt_some e0)
    refine ⟨.ref a, g1, .inl ⟨rfl, vs, .inl (.inl g3)⟩, q Xs σ H l M _ r (PoS.bind k |>.imp fun s l1 M1 H1 st1 rl1 k1 v rv => ?_)⟩
    dsimp only [Cs.cf] at k1 rl1 rv
    obtain ⟨M1', hm, rl1', rv'⟩ := RepR.frozen rl1 rv
    have k2 := k1.shift (Step.refl.less hm) Keep.refl
    cases e1 : ownAt l1 i with
    | none => rw [e1] at k2; exact k2.elim
    | some ds =>
      rw [e1] at k2
      dsimp only at k2
      split at k2
      · rename_i hz
        have ow := ownAt_some e1
        obtain ⟨b, ws, q1, q2, q3, q4⟩ := rl1'.own i _ ow
        rw [g1] at q1
        have : a = b := by simpa using q1
        subst this
        obtain ⟨st3, rl3⟩ := rl1'.put ow g1 (q4.append (RepL.cons rv' RepL.nil))
        exact ⟨a, ws, v, rfl, rfl, q3, by rw [q4.length, nat_sl]; exact hz, k2 σ M1' _ st3 rl3 Keep.refl⟩
      · exact k2.elim
theorem psd_ex {e : Expr} {e' : E} (h : PD X W xi e (evX Γ e')) (hc : notComp e = true) : PSD X W xi pr (.Expr e pos) (exS Γ (.ex e')) := by
  obtain ⟨t, ht, q⟩ := h.ex
  refine ⟨_, ps_expr ht (swapsWith_no hc), fun Xs σ H l M D r k => ?_⟩
  rw [exS.eq_def] at k
  exact q Xs σ H l M _ r (k.bind.imp fun s l1 M1 H1 st1 rl1 k1 v rv => k1 σ M1 H1 Step.refl rl1 Keep.refl)
theorem psd_ite {c : Expr} {a b : List Stmt} {c' : E} {a' b' : List S} (hc : PTD X W xi c (evT Γ c')) (ha : PBD X W xi pr a (exB Γ a')) (hb : PBD X W xi pr b (exB Γ b')) : PSD X W xi pr (.If c a b pos) (exS Γ (.ite c' a' b')) := by
  obtain ⟨t, ht, q⟩ := hc.ex
  obtain ⟨u, hu, o⟩ := ha.ex
  obtain ⟨w, hw, p⟩ := hb.ex
  refine ⟨_, ps_if ht hu hw, fun Xs σ H l M D r k => ?_⟩
  rw [exS.eq_def] at k
  refine q Xs σ H l M _ r (k.bind.imp fun z l1 M1 H1 st1 rl1 k1 => ?_)
  dsimp only [Cs.cf] at k1 rl1
  cases z with
  | true => exact o Xs σ H1 l1 M1 D rl1 k1
  | false => exact p Xs σ H1 l1 M1 D rl1 k1
theorem psd_ret {e : Expr} {e' : E} (h : PD X W xi e (evX Γ e')) : PSD X W xi pr (.Return (some e) pos) (exS Γ (.ret e')) := by
  obtain ⟨t, ht, q⟩ := h.ex
  refine ⟨_, ps_ret ht, fun Xs σ H l M D r k => ?_⟩
  rw [exS.eq_def] at k
  exact q Xs σ H l M _ r (k.bind.imp fun s l1 M1 H1 st1 rl1 k1 v rv => k1 v σ M1 H1 Step.refl rl1 Keep.refl rv)
theorem psd_retv {e : Expr} {i : Nat} (h : PE X e (tVar i)) : PSD X W xi pr (.Return (some e) pos) (exS Γ (.retv i)) := by
  refine ⟨_, ps_ret h, fun Xs σ H l M D r k => ?_⟩
  rw [exS.eq_def] at k
  dsimp only at k
  cases e1 : l[i]? with
  | none => rw [e1] at k; exact k.elim
  | some s =>
    rw [e1] at k
    cases s with
    | un => exact k.elim
    | val d =>
      obtain ⟨v, h1, h2⟩ := r.val i d e1
      exact ⟨v, h1, k v σ M H Step.refl r Keep.refl h2⟩
    | own ds =>
      obtain ⟨a, vs, h1, h2, h3, h4⟩ := r.own i ds e1
      refine ⟨.ref a, h1, k _ σ M H Step.refl (r.unset i) Keep.refl ⟨a, vs, rfl, h2, h3, h4, fun j es e2 z => ?_⟩⟩
      have hi : i < l.length := (List.getElem?_eq_some_iff.mp e1).1
      by_cases hj : j = i
      · subst hj; rw [List.getElem?_set_self hi] at e2; cases e2
      · rw [List.getElem?_set_ne (Ne.symm hj)] at e2
        exact hj (r.inj j i a es ds e2 e1 z h1)
theorem psd_brk : PSD X W xi pr (.Break pos) (exS Γ .brk) := ⟨_, ps_break, fun Xs σ H l M D r k => by
  rw [exS.eq_def] at k
  exact k σ M H Step.refl r Keep.refl⟩
theorem psd_cnt : PSD X W xi pr (.Continue pos) (exS Γ .cnt) := ⟨_, ps_continue, fun Xs σ H l M D r k => by
  rw [exS.eq_def] at k
  exact k σ M H Step.refl r Keep.refl⟩
theorem psd_pas : PSD X W xi pr (.Pass pos) (exS Γ .pas) := ⟨_, ps_pass, fun Xs σ H l M D r k => by
  rw [exS.eq_def] at k
  exact k σ M H Step.refl r Keep.refl⟩
theorem pbd_nil : PBD X W xi pr [] (exB Γ []) := ⟨_, pss_nil, fun Xs σ H l M D r k => by
  rw [exB.eq_def] at k
  exact k σ M H Step.refl r Keep.refl⟩
theorem pbd_cons {st : Stmt} {rest : List Stmt} {s' : S} {r' : List S} (h1 : PSD X W xi pr st (exS Γ s')) (h2 : PBD X W xi pr rest (exB Γ r')) : PBD X W xi pr (st :: rest) (exB Γ (s' :: r')) := by
  obtain ⟨t, ht, q⟩ := h1.ex
  obtain ⟨u, hu, o⟩ := h2.ex
  refine ⟨_, pss_cons ht hu, fun Xs σ H l M D r k => ?_⟩
  rw [exB.eq_def] at k
  dsimp only at k
  refine q Xs σ H l M _ r ?_
  cases e1 : exS Γ s' l with
  | bad => rw [e1] at k; exact k.elim
  | exc x l1 => rw [e1] at k; exact k
  | ok z =>
    obtain ⟨f, l1⟩ := z
    rw [e1] at k
    cases f with
    | nx => exact fun σ' M' H' s' r' kk => o Xs σ' H' l1 M' D r' (PoS.shift (show PoS _ σ M H D (exB Γ _ l1) from k) s' kk)
    | brk => exact k
    | cnt => exact k
    | ret s => exact k
end
end DL

set_option Elab.async false
set_option linter.all false
set_option maxRecDepth 100000
set_option maxHeartbeats 4000000
namespace DL
open PySem PySem.Spec PyProof.Rows L2

/-! ## the translation of statements -/
def locB (T : TC) (x : Str) : Bool := match T.names.lookup x with
  | some .local => true
  | some .cell => true
  | _ => false
def local1 (T : TC) (x : Str) : Bool := match T.names.lookup x with
  | some .local => true
  | _ => false
/-- a slot that may be stored -/
def slotW (T : TC) (pr : List Nat) (x : Str) : Option Nat := match T.N.idxOf? x with
  | some i => if locB T x && !pr.contains i then some i else none
  | none => none
/-- a slot that is read -/
def slotR (T : TC) (x : Str) : Option Nat := match T.N.idxOf? x with
  | some i => if visB T x && okName x then some i else none
  | none => none
def trTs (tr : Expr → Option Tg) : List Expr → Option (List Tg)
  | [] => some []
  | e :: es => match tr e, trTs tr es with
    | some a, some r => if notStar e then some (a :: r) else none
    | _, _ => none
def trT (T : TC) (pr : List Nat) : Nat → Expr → Option Tg
  | 0, _ => none
  | n + 1, e => match e with
    | .Name x _ => (slotW T pr x).map .name
    | .Tuple es _ _ => (trTs (trT T pr n) es).map .tup
    | _ => none
def notSet : Expr → Bool
  | .Set .. => false
  | _ => true
def trI (T : TC) (n : Nat) : Expr → Option (Nat × List E)
  | .Call (.Name x px) es kws pos => if x == ("range" : Str) && isBl T x && kws.isEmpty then (match es with
      | [a] => if notStar a then (trE T n a).map fun a' => (1, [a']) else none
      | [a, b] => if notStar a && notStar b then (match trE T n a, trE T n b with
        | some a', some b' => some (2, [a', b'])
        | _, _ => none) else none
      | _ => none)
    else (trE T n (.Call (.Name x px) es kws pos)).map fun e' => (0, [e'])
  | e => if notSet e then (trE T n e).map fun e' => (0, [e']) else none
def trSs (tr : Stmt → Option S) : List Stmt → Option (List S)
  | [] => some []
  | s :: ss => match tr s, trSs tr ss with
    | some a, some r => some (a :: r)
    | _, _ => none
def parOk (T : TC) (x y : Str) (px py : Pos) (a b : Expr) : Bool :=
  local1 T x && local1 T y && (px.line == py.line) && !(x == y) && notStar a && notStar b && !([a, b].all (foldedForSure 8)) && !([a, b].all (constantsAlone 8))
def trS1 (T : TC) (pr : List Nat) (n : Nat) (tr : Stmt → Option S) : Stmt → Option S
  | .Assign [.Name x _] e _ => match slotW T pr x, trE T n e with
    | some i, some e' => if notComp e then some (.set i e') else none
    | _, _ => none
  | .Assign [.Subscript (.Name x _) k _] e _ => match slotR T x, trE T n k, trE T n e with
    | some i, some k', some e' => if notComp e && plainIx k then some (.setix i k' e') else none
    | _, _, _ => none
  | .Assign [.Tuple [.Name x px, .Name y py] _ _] (.Tuple [a, b] _ _) _ => if parOk T x y px py a b then (match slotW T pr x, slotW T pr y, trL (trE T n) [a, b] with
    | some i, some j, some es => if i == j then none else some (.par [i, j] es)
    | _, _, _ => none) else none
  | .Assign [tg] e _ => if asgOk tg e then (match trT T pr n tg, trE T n e with
    | some t', some e' => some (.asg t' e')
    | _, _ => none) else none
  | .AugAssign (.Name x _) op e _ => match slotW T pr x, augP op, trE T n e with
    | some i, some p, some e' => some (.aug i p e')
    | _, _, _ => none
  | .AugAssign (.Subscript (.Name x _) k _) op e _ => match slotR T x, trE T n k, augP op, trE T n e with
    | some i, some k', some p, some e' => if plainIx k then some (.augix i k' p e') else none
    | _, _, _, _ => none
  | .Expr (.Call (.Attribute (.Name x _) m pa) [e] [] pc) _ => if m == ("append" : Str) && (pa.endLine == pc.line) && notStar e then (match slotR T x, trE T n e with
    | some i, some e' => some (.app i e')
    | _, _ => none) else none
  | .Expr e _ => if notComp e then (trE T n e).map .ex else none
  | .If c a b _ => match trE T n c, trSs tr a, trSs tr b with
    | some c', some a', some b' => some (.ite c' a' b')
    | _, _, _ => none
  | .While c b [] _ => match trE T n c, trSs tr b with
    | some c', some b' => some (.whl c' b')
    | _, _ => none
  | .For tg iter b [] _ => match trT T pr n tg, trI T n iter, trSs tr b with
    | some t', some (ik, ies), some b' => some (.fer t' ik ies b')
    | _, _, _ => none
  | .Return (some (.Name x _)) _ => match slotR T x with
    | some i => if pr.contains i then none else some (.retv i)
    | none => if (T.N.idxOf? x).isNone && glB T x && okName x then (T.cn x).map fun d => .ret (.cst d) else none
  | .Return (some e) _ => (trE T n e).map .ret
  | .Return none _ => some (.ret (.cst .non))
  | .Break _ => some .brk
  | .Continue _ => some .cnt
  | .Pass _ => some .pas
  | _ => none
def trS (T : TC) (pr : List Nat) (n : Nat) : Nat → Stmt → Option S
  | 0, _ => none
  | m + 1, s => trS1 T pr n (trS T pr n m) s

structure GoodS (X : Cx) (T : TC) (Γ : Gam) (W : WX) (xi : XI) (k : Nat) : Prop extends Good X T Γ W xi k where
  nd : X.N.Nodup
  hfn : ∀ x, L2.Loc X.env.scope x → X.fn x = true ∨ X.env.scope.names.lookup x = some .local
  pas : PassesOwn (model X.prog X.w) X.A X.env X.xe
  kind : X.env.scope.kind = .function
section
variable {X : Cx} {T : TC} {W : WX} {xi : XI} {Γ : Gam} {k : Nat} {pr : List Nat}
theorem slotW_ok (G : GoodS X T Γ W xi k) {x : Str} {i : Nat} (h : slotW T pr x = some i) : X.N[i]? = some x ∧ L2.Loc X.env.scope x ∧ i ∉ pr := by
  unfold slotW at h
  split at h
  · rename_i j hj
    split at h
    · rename_i hc
      cases h
      simp only [Bool.and_eq_true, Bool.not_eq_true', List.contains_eq_mem, decide_eq_false_iff_not] at hc
      refine ⟨by rw [G.N]; exact idx_get hj, ?_, hc.2⟩
      have h1 := hc.1
      unfold locB at h1
      unfold L2.Loc
      rw [G.sc]
      split at h1 <;> first | exact .inl (by assumption) | exact .inr (by assumption) | cases h1
    · cases h
  · cases h
theorem slotR_ok (G : GoodS X T Γ W xi k) {x : Str} {i : Nat} (h : slotR T x = some i) (pos : Pos) : PE X (.Name x pos) (tVar i) := by
  unfold slotR at h
  split at h
  · rename_i j hj
    split at h
    · rename_i hc
      cases h
      rw [Bool.and_eq_true] at hc
      have hd := okName_d hc.2
      exact pe_var (by rw [G.N]; exact idx_get hj) (G.vis hc.1) hd.1 hd.2
    · cases h
  · cases h
theorem trT_ok (G : GoodS X T Γ W xi k) : ∀ (n : Nat) {e : Expr} {t' : Tg}, trT T pr n e = some t' → PGD X pr e t' := by
  intro n
  induction n with
  | zero => intro e t' h; unfold trT at h; cases h
  | succ n ih =>
    intro e t' h
    unfold trT at h
    split at h
    · rw [Option.map_eq_some_iff] at h
      obtain ⟨i, h1, rfl⟩ := h
      obtain ⟨g1, g2, g3⟩ := slotW_ok G h1
      exact pgd_name G.nd g1 g2 (G.hfn _ g2) g3
    · rename_i es kk pos
      rw [Option.map_eq_some_iff] at h
      obtain ⟨ts, h1, rfl⟩ := h
      have all : ∀ {es : List Expr} {ts : List Tg}, trTs (trT T pr n) es = some ts → PGsD X pr es ts ∧ es.all notStar = true ∧ ts.length = es.length := by
        intro es
        induction es with
        | nil => intro ts h; cases h; exact ⟨pgsd_nil, rfl, rfl⟩
        | cons e es ihh =>
          intro ts h
          unfold trTs at h
          cases e1 : trT T pr n e with
          | none => rw [e1] at h; cases h
          | some a =>
            cases e2 : trTs (trT T pr n) es with
            | none => rw [e1, e2] at h; cases h
            | some r =>
              rw [e1, e2] at h
              dsimp only at h
              split at h
              · rename_i hs
                cases h
                obtain ⟨q1, q2, q3⟩ := ihh e2
                exact ⟨pgsd_cons (ih e1) q1 hs, by rw [List.all_cons, hs, q2]; rfl, by rw [List.length_cons, List.length_cons, q3]⟩
              · cases h
      obtain ⟨q1, q2, q3⟩ := all h1
      exact pgd_tup G.calm q1 q2 q3
    · cases h
theorem fold_ok {e : Expr} {env : PySem.Env} (h : notSet e = true) : ∀ x, foldedSetIterable e env x = pure x := by
  intro x
  cases e <;> first | rfl | cases h
theorem trI_ok (G : GoodS X T Γ W xi k) {n : Nat} {tg e : Expr} {ik : Nat} {ies : List E} (h : trI T n e = some (ik, ies)) : PID X W xi tg e (evI Γ ik ies) ∧ ∀ x, foldedSetIterable e X.env x = pure x := by
  unfold trI at h
  split at h
  · rename_i x px es kws pos
    refine ⟨?_, fun _ => rfl⟩
    split at h
    · rename_i hc
      simp only [Bool.and_eq_true] at hc
      obtain ⟨⟨h1, h2⟩, h3⟩ := hc
      have hx := eq_of_beq h1
      subst hx
      have hk := List.isEmpty_iff.mp h3
      subst hk
      obtain ⟨hg, hm⟩ := blt_of G.toGood h2
      split at h
      · rename_i a
        split at h
        · rename_i hs
          rw [Option.map_eq_some_iff] at h
          obtain ⟨a', ha, e⟩ := h
          cases e
          have s := sndE n G.toGood ha
          exact pid_rg1 hg hm (pld_cons s.pd pld_nil (starEach_cons hs)) hs
        · cases h
      · rename_i a b
        split at h
        · rename_i hs
          rw [Bool.and_eq_true] at hs
          split at h
          · rename_i a' b' ha hb
            cases h
            have s := sndE n G.toGood ha
            have s2 := sndE n G.toGood hb
            exact pid_rg2 hg hm (pld_cons s.pd (pld_cons s2.pd pld_nil (starEach_cons hs.2)) (starEach_cons hs.1)) hs.1 hs.2
          · cases h
        · cases h
      · cases h
    · rw [Option.map_eq_some_iff] at h
      obtain ⟨e', he, e⟩ := h
      cases e
      exact pid_seq (sndE n G.toGood he).pd
  · split at h
    · rename_i hs
      rw [Option.map_eq_some_iff] at h
      obtain ⟨e', he, e⟩ := h
      cases e
      exact ⟨pid_seq (sndE n G.toGood he).pd, fold_ok hs⟩
    · cases h
theorem trSs_ok {tr : Stmt → Option S} (ih : ∀ s s', tr s = some s' → PSD X W xi pr s (exS Γ s')) : ∀ {ss : List Stmt} {ss' : List S}, trSs tr ss = some ss' → PBD X W xi pr ss (exB Γ ss')
  | [], ss', h => by cases h; exact pbd_nil
  | s :: ss, ss', h => by
    unfold trSs at h
    cases e1 : tr s with
    | none => rw [e1] at h; cases h
    | some a =>
      cases e2 : trSs tr ss with
      | none => rw [e1, e2] at h; cases h
      | some r =>
        rw [e1, e2] at h
        cases h
        exact pbd_cons (ih s a e1) (trSs_ok ih e2)
theorem psd_retN {pos : Pos} : PSD X W xi pr (.Return none pos) (exS Γ (.ret (.cst .non))) := ⟨_, ps_retN, fun Xs σ H l M D r kk => by
  rw [exS.eq_def] at kk
  dsimp only at kk
  rw [evX.eq_def] at kk
  exact kk .non σ M H Step.refl r Keep.refl (RepR.ofVal Rep.non)⟩
theorem sndS (G : GoodS X T Γ W xi k) (n : Nat) : ∀ (m : Nat) {s : Stmt} {s' : S}, trS T pr n m s = some s' → PSD X W xi pr s (exS Γ s') := by
  intro m
  induction m with
  | zero => intro s s' h; unfold trS at h; cases h
  | succ m ih =>
    intro s s' h
    have h' : trS1 T pr n (trS T pr n m) s = some s' := h
    clear h
    have IH : ∀ s s', trS T pr n m s = some s' → PSD X W xi pr s (exS Γ s') := fun s s' h => ih h
    generalize trS T pr n m = tr at h' IH
    have h := h'
    clear h' ih
    unfold trS1 at h
    split at h
    · split at h
      · rename_i i e' h1 h2
        split at h
        · rename_i hc
          cases h
          obtain ⟨g1, g2, g3⟩ := slotW_ok G h1
          exact psd_set G.nd g1 g2 (G.hfn _ g2) g3 (sndE n G.toGood h2).pd hc
        · cases h
      · cases h
    · split at h
      · rename_i i k' e' h1 h2 h3
        split at h
        · rename_i hc
          cases h
          rw [Bool.and_eq_true] at hc
          exact psd_setix (slotR_ok G h1 _) (sndE n G.toGood h2).pd (sndE n G.toGood h3).pd hc.1 hc.2
        · cases h
      · cases h
    · split at h
      · rename_i hp
        unfold parOk at hp
        simp only [Bool.and_eq_true, Bool.not_eq_true'] at hp
        obtain ⟨⟨⟨⟨⟨⟨⟨h1, h2⟩, h3⟩, h4⟩, h5⟩, h6⟩, h7⟩, h8⟩ := hp
        split at h
        · rename_i i j es g1 g2 g3
          split at h
          · cases h
          · rename_i hij
            cases h
            obtain ⟨a1, a2, a3⟩ := slotW_ok G g1
            obtain ⟨b1, b2, b3⟩ := slotW_ok G g2
            obtain ⟨_, p2, _, _⟩ := trL_ok (fun e e' he => sndE n G.toGood he) g3
            have l1 : ∀ {x : Str}, local1 T x = true → X.env.scope.names.lookup x = some .local := fun {x} hx => by
              unfold local1 at hx
              rw [G.sc]
              split at hx <;> first | assumption | cases hx
            have hb : X.env.blockKind = .function := by unfold Env.blockKind; rw [G.kind]; rfl
            exact psd_par G.calm G.nd a1 b1 (fun z => hij (by rw [z]; exact beq_self_eq_true _)) (l1 h1) (l1 h2) p2 a3 b3 (sw2 hb (l1 h1) (l1 h2) h3 h4 h5 h6 h7 h8)
        · cases h
      · cases h
    · split at h
      · rename_i ho
        split at h
        · rename_i t' e' h1 h2
          cases h
          exact psd_asg (trT_ok G n h1) (sndE n G.toGood h2).pd ho
        · cases h
      · cases h
    · split at h
      · rename_i i p e' h1 h2 h3
        cases h
        obtain ⟨g1, g2, g3⟩ := slotW_ok G h1
        exact psd_aug G.nd g1 g2 (G.hfn _ g2) g3 (sndE n G.toGood h3).pd h2
      · cases h
    · split at h
      · rename_i i k' p e' h1 h2 h3 h4
        split at h
        · rename_i hc
          cases h
          exact psd_augix (slotR_ok G h1 _) (sndE n G.toGood h2).pd (sndE n G.toGood h4).pd hc h3
        · cases h
      · cases h
    · split at h
      · rename_i hc
        simp only [Bool.and_eq_true] at hc
        obtain ⟨⟨c1, c2⟩, c3⟩ := hc
        have hm := eq_of_beq c1
        subst hm
        split at h
        · rename_i i e' h1 h2
          cases h
          exact psd_app (slotR_ok G h1 _) (sndE n G.toGood h2).pd c3 c2
        · cases h
      · cases h
    · split at h
      · rename_i hc
        rw [Option.map_eq_some_iff] at h
        obtain ⟨e', h1, rfl⟩ := h
        exact psd_ex (sndE n G.toGood h1).pd hc
      · cases h
    · split at h
      · rename_i c' a' b' h1 h2 h3
        cases h
        exact psd_ite (sndE n G.toGood h1).ptd (trSs_ok IH h2) (trSs_ok IH h3)
      · cases h
    · split at h
      · rename_i c' b' h1 h2
        cases h
        exact psd_whl G.pas (sndE n G.toGood h1).ptd (trSs_ok IH h2)
      · cases h
    · split at h
      · rename_i t' ik ies b' h1 h2 h3
        cases h
        obtain ⟨q1, q2⟩ := trI_ok G h2
        exact psd_for G.pas G.calm q1 (trT_ok G n h1) (trSs_ok IH h3) q2
      · cases h
    · split at h
      · rename_i i h1
        split at h
        · cases h
        · cases h
          exact psd_retv (slotR_ok G h1 _)
      · split at h
        · rename_i hc
          simp only [Bool.and_eq_true] at hc
          rw [Option.map_eq_some_iff] at h
          obtain ⟨d, hd, rfl⟩ := h
          obtain ⟨u, v, q1, q2, q3⟩ := G.cn _ _ hd
          exact psd_ret (pd_cst (pe_glob (G.gl hc.1.2) q1 q2 (okName_d hc.2).1) q3)
        · cases h
    · rw [Option.map_eq_some_iff] at h
      obtain ⟨e', h1, rfl⟩ := h
      exact psd_ret (sndE n G.toGood h1).pd
    · cases h; exact psd_retN
    · cases h; exact psd_brk
    · cases h; exact psd_cnt
    · cases h; exact psd_pas
    · cases h
end
end DL

set_option Elab.async false
set_option linter.all false
set_option maxRecDepth 100000
set_option maxHeartbeats 4000000
namespace DL
open PySem PySem.Spec PyProof.Rows L2

theorem app_un {ss : List Sl} {n i : Nat} {s : Sl} (h : (ss ++ List.replicate n Sl.un)[i]? = some s) (hs : s ≠ .un) : ss[i]? = some s := by
  rw [List.getElem?_append] at h
  split at h
  · exact h
  · rw [List.getElem?_replicate] at h
    split at h
    · cases h; exact absurd rfl hs
    · cases h
theorem RepLoc.longer {K : PySem.W.Frag} {X M : Ad} {σ : L2.St} {H : Hp} {l : Loc} (r : RepLoc K X M σ H l) (n : Nat) : RepLoc K X M (σ ++ List.replicate n none) H (l ++ List.replicate n .un) := by
  have at1 : ∀ {i : Nat} {u : Option V}, σ[i]? = some u → (σ ++ List.replicate n none)[i]? = some u := fun {i u} e => by
    rw [List.getElem?_append_left (List.getElem?_eq_some_iff.mp e).1]; exact e
  refine ⟨by rw [List.length_append, List.length_append, List.length_replicate, List.length_replicate, r.len], fun i d e => ?_, fun i ds e => ?_, fun i j a ds es e1 e2 e3 e4 => ?_, r.trk, r.dis⟩
  · obtain ⟨v, h1, h2⟩ := r.val i d (app_un e (fun z => nomatch z))
    exact ⟨v, at1 h1, h2⟩
  · obtain ⟨a, vs, h1, h2⟩ := r.own i ds (app_un e (fun z => nomatch z))
    exact ⟨a, vs, at1 h1, h2⟩
  · have g1 := app_un e1 (fun z => nomatch z)
    have g2 := app_un e2 (fun z => nomatch z)
    have l1 : i < σ.length := by rw [r.len]; exact (List.getElem?_eq_some_iff.mp g1).1
    have l2 : j < σ.length := by rw [r.len]; exact (List.getElem?_eq_some_iff.mp g2).1
    rw [List.getElem?_append_left l1] at e3
    rw [List.getElem?_append_left l2] at e4
    exact r.inj i j a ds es g1 g2 e3 e4
theorem outs_rep {K : PySem.W.Frag} {X M' : Ad} {σ0 σ' : L2.St} {H' : Hp} {l o : Loc} {vs : List V} {np : Nat} {rf : Option Nat} (hl : vs.length = np) (h0 : ∀ j, j < np → σ0[j]? = (vs.map some)[j]?) (rl : RepLoc K X M' σ' H' l) (kp : Keep rf.toList σ0 σ')
    (ho : outsOf l np rf = some o) : RepLoc K X M' (vs.map some) H' o ∧ ∀ v s, RepR K X M' σ' l H' v s → RepR K X M' (vs.map some) o H' v s := by
  cases rf with
  | none =>
    cases ho
    have nu : ∀ {i : Nat} {s : Sl}, (List.replicate np Sl.un)[i]? = some s → s ≠ .un → False := fun {i s} e z => by
      rw [List.getElem?_replicate] at e
      split at e
      · cases e; exact z rfl
      · cases e
    refine ⟨⟨by rw [List.length_map, List.length_replicate, hl], fun i d e => (nu e (fun z => nomatch z)).elim, fun i d e => (nu e (fun z => nomatch z)).elim, fun i j a ds es e => (nu e (fun z => nomatch z)).elim, rl.trk, rl.dis⟩, fun v s h => ?_⟩
    cases s with
    | un => exact h
    | val d => exact h
    | own ds =>
      obtain ⟨a, ws, h1, h2, h3, h4, _⟩ := h
      exact ⟨a, ws, h1, h2, h3, h4, fun i es e => (nu e (fun z => nomatch z)).elim⟩
  | some j =>
    unfold outsOf at ho
    dsimp only at ho
    split at ho
    · rename_i ds e
      cases ho
      have at1 : ∀ {i : Nat} {s : Sl}, ((List.replicate np Sl.un).set j (.own ds))[i]? = some s → s ≠ .un → i = j ∧ j < np ∧ s = .own ds := fun {i s} e z => by
        rw [List.getElem?_set] at e
        split at e
        · rename_i hij
          split at e
          · rename_i hlt
            rw [List.length_replicate] at hlt
            cases e; exact ⟨hij.symm, hlt, rfl⟩
          · cases e
        · rw [List.getElem?_replicate] at e
          split at e
          · cases e; exact absurd rfl z
          · cases e
      have sl : j < np → (vs.map some)[j]? = σ'[j]? := fun h => by rw [← h0 j h]; exact (kp j (by simp)).symm
      refine ⟨⟨by rw [List.length_map, List.length_set, List.length_replicate, hl], fun i d q => ?_, fun i es q => ?_, fun i k a es fs q1 q2 _ _ => ?_, rl.trk, rl.dis⟩, fun v s h => ?_⟩
      · obtain ⟨_, _, z⟩ := at1 q (fun z => nomatch z)
        cases z
      · obtain ⟨rfl, hj, z⟩ := at1 q (fun z => nomatch z)
        have z2 := Sl.own.inj z
        subst z2
        obtain ⟨a, ws, g1, g2⟩ := rl.own _ _ e
        exact ⟨a, ws, by rw [sl hj]; exact g1, g2⟩
      · obtain ⟨rfl, _, _⟩ := at1 q1 (fun z => nomatch z)
        obtain ⟨rfl, _, _⟩ := at1 q2 (fun z => nomatch z)
        rfl
      · cases s with
        | un => exact h
        | val d => exact h
        | own es =>
          obtain ⟨a, ws, h1, h2, h3, h4, h5⟩ := h
          refine ⟨a, ws, h1, h2, h3, h4, fun i fs q => ?_⟩
          obtain ⟨rfl, hj, z⟩ := at1 q (fun z => nomatch z)
          rw [sl hj]
          exact h5 _ _ e
    · cases ho

/-- what a table of names says of the program behind the top -/
structure Tab (P : Program) (w : World) (K : PySem.W.Frag) (mg : Str → Option Value) (base : Heap) (T : TC) (Γ : Gam) (xi : XI) (k : Nat) : Prop where
  fn : ∀ x fi, T.fn x = some fi → ∃ (f : Addr) (fd : FuncData) (ps : List Str), mg x = some (.ref f) ∧ PySem.W.keepIn K (.ref f) = true ∧ FnOk P w K mg base (L2.CX P w) k f fd ps (spOf K xi ps.length fi.rf (Γ fi.ix)) ∧
    ∀ sh ∈ fi.sh, ShapeOk K fd ps sh ∧ sh.pm.length = ps.length
  cn : ∀ x d, T.cn x = some d → ∃ u v, mg x = some u ∧ RelV v u ∧ ∀ F H, Rep K F H v d
  bl : ∀ x ∈ T.bl, mg x = none

theorem fnD {P : Program} {w : World} {K : PySem.W.Frag} {mg : Str → Option Value} {base : Heap} {T : TC} {Γ : Gam} {xi : XI} {k : Nat} {x qual : Str} {st : Stmt} {f : Addr} {fd : FuncData} {ps : List Str} {rf : Option Nat} {n m : Nat} {body : List S}
    (F : Fun K x qual st f fd) (S : FnScope T.N ps (defScope st)) (hsc : T.names = (defScope st).names) (tb : Tab P w K mg base T Γ xi k) (tr : trSs (trS T rf.toList n m) (defBody st) = some body) :
    FnOk P w K mg base (L2.CX P w) (k + 1) f fd ps (spOf K xi ps.length rf (runF Γ ⟨ps.length, T.N.length, rf, body⟩)) := by
  refine Fun.okX F S (fun vs H Q E h => h.choose_spec.choose_spec.choose_spec.1) fun cdv A outer s H vs Q E hr hsp => ?_
  have G : GoodS (cxOf (L2.CX P w) P w K mg base T.N qual (defScope st) f cdv A outer s H E) T Γ (fun cls d _ H => E cls d H) xi k := by
    refine { N := rfl, sc := hsc.symm, calm := rfl, room := hr, tk := takes_of rfl rfl rfl rfl, fn := fun y fi h => ⟨tb.fn y fi h⟩, cn := tb.cn, bl := tb.bl, nd := S.nd, hfn := fun _ _ => .inl rfl, pas := passes_of rfl, kind := S.kind }
  have hb := trSs_ok (pr := rf.toList) (fun s s' h => sndS G n m h) tr
  obtain ⟨t, ht, q⟩ := hb.ex
  refine ⟨t, ht, ?_⟩
  obtain ⟨Xs, M, ss, hl, rl, hM, hown, hF⟩ := hsp
  have hss : ss.length = ps.length := by rw [← rl.len, List.length_map, hl]
  have st0 : L2.start T.N vs = vs.map some ++ List.replicate (T.N.length - ps.length) none := by unfold L2.start; rw [hl]
  rw [st0]
  have h0 : ∀ j, j < ps.length → (vs.map some ++ List.replicate (T.N.length - ps.length) none)[j]? = (vs.map some)[j]? := fun j hj => by
    rw [List.getElem?_append_left (by rw [List.length_map, hl]; exact hj)]
  refine q Xs _ H (ss ++ List.replicate (T.N.length - ps.length) Sl.un) M _ (rl.longer (T.N.length - ps.length)) ?_
  unfold runF at hF
  rw [if_pos hss] at hF
  dsimp only at hF
  cases e : exB Γ body (ss ++ List.replicate (T.N.length - ps.length) Sl.un) with
  | bad => rw [e] at hF; exact hF
  | exc y l => rw [e] at hF; exact fun cls d σ' M' H' s2 rl2 kp hx => hF cls d M' H' s2 hx
  | ok r =>
    obtain ⟨fl, l⟩ := r
    rw [e] at hF
    cases fl with
    | nx =>
      dsimp only at hF
      cases eo : outsOf l ps.length rf with
      | none => rw [eo] at hF; exact hF.elim
      | some o =>
        rw [eo] at hF
        intro σ' M' H' s2 rl2 kp
        obtain ⟨g1, g2⟩ := outs_rep hl h0 rl2 kp eo
        exact hF .non M' H' s2 g1 (show Rep K (Fb Xs M') H' .non .non from Rep.non)
    | ret s =>
      dsimp only at hF
      cases eo : outsOf l ps.length rf with
      | none => rw [eo] at hF; exact hF.elim
      | some o =>
        rw [eo] at hF
        intro v σ' M' H' s2 rl2 kp rv
        obtain ⟨g1, g2⟩ := outs_rep hl h0 rl2 kp eo
        exact hF v M' H' s2 g1 (g2 v s rv)
    | brk => exact hF.elim
    | cnt => exact hF.elim
end DL

set_option Elab.async false
set_option linter.all false
set_option maxRecDepth 100000
set_option maxHeartbeats 4000000
namespace DL
open PySem PySem.Spec PyProof.Rows L2

/-! ## a whole text -/
structure DefI where
  name : Str
  st : Stmt
  ps : List Str
  N : List Str
  rf : Option Nat
  sh : List Shape
  body : List S
def DefI.fd (d : DefI) : FD := ⟨d.ps.length, d.N.length, d.rf, d.body⟩
def fnFrom : Nat → List DefI → Str → Option FnI
  | _, [], _ => none
  | i, d :: ds, x => if d.name == x then some ⟨i, d.rf, d.sh⟩ else fnFrom (i + 1) ds x
def tcOf (ds : List DefI) (cn : List (Str × D)) (bl : List Str) (d : DefI) : TC := ⟨d.N, (defScope d.st).names, fnFrom 0 ds, fun x => cn.lookup x, bl⟩
def progOf (ds : List DefI) (i : Nat) : Option FD := ds[i]?.map DefI.fd
structure DefTr (ds : List DefI) (cn : List (Str × D)) (bl : List Str) (d : DefI) : Prop where
  sc : FnScope d.N d.ps (defScope d.st)
  pm : ∀ sh ∈ d.sh, sh.pm.length = d.ps.length
  tr : trSs (trS (tcOf ds cn bl d) d.rf.toList 60 60) (defBody d.st) = some d.body
structure DefAt (K : PySem.W.Frag) (mg : Str → Option Value) (d : DefI) : Prop where
  ex : ∃ (f : Addr) (fd : FuncData), Fun K d.name d.name d.st f fd ∧ mg d.name = some (.ref f) ∧ ∀ sh ∈ d.sh, ShapeOk K fd d.ps sh
theorem shape_of {K : PySem.W.Frag} {x qual : Str} {st : Stmt} {f : Addr} {fd : FuncData} {ps : List Str} {sh : Shape} (F : Fun K x qual st f fd)
    (h : ∀ (kV doc pm : Value) (an : Option Addr) (cdv ct : Value) (s : Shared) (us ws : List Value), us.length = sh.n → ws.length = sh.ks.length →
      BindsTo s (PySem.W.fnOf x qual (defArgs st) (defBody st) (defScope st) .none kV doc pm an cdv ct) ⟨us, sh.ks.zip ws⟩ (ps.zip (gather sh.pm (us ++ ws)))) : ShapeOk K fd ps sh := by
  obtain ⟨oc, od, kV, doc, pm, an, cdv, ct, osl, rfl, lk, hcd⟩ := F.ex
  exact fun s us ws _ h1 h2 => h kV doc pm an cdv ct s us ws h1 h2
theorem fnFrom_some : ∀ {ds : List DefI} {i : Nat} {x : Str} {fi : FnI}, fnFrom i ds x = some fi → ∃ (j : Nat) (d : DefI), ds[j]? = some d ∧ d.name = x ∧ fi = ⟨i + j, d.rf, d.sh⟩
  | [], i, x, fi, h => by unfold fnFrom at h; cases h
  | d :: ds, i, x, fi, h => by
    unfold fnFrom at h
    split at h
    · rename_i hx
      cases h
      exact ⟨0, d, rfl, eq_of_beq hx, rfl⟩
    · obtain ⟨j, d', h1, h2, h3⟩ := fnFrom_some h
      exact ⟨j + 1, d', h1, h2, by rw [h3, show i + 1 + j = i + (j + 1) by omega]⟩
section
variable {P : Program} {w : World} {K : PySem.W.Frag} {mg : Str → Option Value} {base : Heap} {xi : XI} {ds : List DefI} {cn : List (Str × D)} {bl : List Str}
theorem prog_ok (hA : ∀ d ∈ ds, DefAt K mg d) (hT : ∀ d ∈ ds, DefTr ds cn bl d) (hc : ∀ x d, cn.lookup x = some d → ∃ u v, mg x = some u ∧ RelV v u ∧ ∀ F H, Rep K F H v d) (hb : ∀ x ∈ bl, mg x = none) :
    ∀ (n i : Nat) (d : DefI), ds[i]? = some d → ∀ (f : Addr) (fd : FuncData), Fun K d.name d.name d.st f fd → FnOk P w K mg base (L2.CX P w) n f fd d.ps (spOf K xi d.ps.length d.rf (callF (progOf ds) n i)) := by
  intro n
  induction n with
  | zero =>
    intro i d hi f fd F
    have no : ∀ vs H Q E, ¬ spOf K xi d.ps.length d.rf (callF (progOf ds) 0 i) vs H Q E := fun vs H Q E h => by
      obtain ⟨X, M, ss, _, _, _, _, h⟩ := h
      rw [callF.eq_def] at h
      exact h
    exact ⟨fun vs H Q E h => (no _ _ _ _ h).elim, fun A outer s H args us vs Q E _ _ _ _ h => (no _ _ _ _ h).elim⟩
  | succ n ih =>
    intro i d hi f fd F
    have hm := List.mem_of_getElem? hi
    have t := hT d hm
    have tb : Tab P w K mg base (tcOf ds cn bl d) (callF (progOf ds) n) xi n := by
      refine ⟨fun x fi h => ?_, hc, hb⟩
      obtain ⟨j, d', h1, h2, h3⟩ := fnFrom_some h
      have hm' := List.mem_of_getElem? h1
      obtain ⟨f', fd', F', m', s'⟩ := (hA d' hm').ex
      have t' := hT d' hm'
      subst h3
      rw [Nat.zero_add]
      exact ⟨f', fd', d'.ps, by rw [← h2]; exact m', F'.kp, ih j d' h1 f' fd' F', fun sh hs => ⟨s' sh hs, t'.pm sh hs⟩⟩
    have q := fnD (T := tcOf ds cn bl d) (rf := d.rf) F t.sc rfl tb t.tr
    have e : callF (progOf ds) (n + 1) i = runF (callF (progOf ds) n) d.fd := by
      funext args
      rw [callF.eq_def]
      dsimp only
      unfold progOf
      rw [hi]
      rfl
    rw [e]
    exact q
end
/-- no exception -/
def xi0 : XI := fun _ _ _ _ => False
theorem repL_ints {K : PySem.W.Frag} {F : Ad} {H : Hp} : ∀ ns : List Int, RepL K F H (ns.map V.int) (ns.map D.int)
  | [] => RepL.nil
  | n :: ns => RepL.cons (by rw [Rep]) (repL_ints ns)
theorem law_sp {K : PySem.W.Frag} {H : Hp} {a : Addr} {ns : List Int} {F : List Sl → R (Sl × List Sl)} {o : List Sl} (hS : SqL K H a (ns.map V.int)) (h : F [.val (.lst (ns.map D.int))] = .ok (.val (.bl true), o)) (ho : o = [.un]) :
    spOf K xi0 1 none F [.ref a] H (fun v _ => v = .bl true) (fun _ _ _ => False) := by
  subst ho
  have r : Rep K (Fb (fun _ => False) (fun _ => False)) H (.ref a) (.lst (ns.map D.int)) := by
    rw [Rep]
    refine ⟨a, ns.map V.int, rfl, ?_, repL_ints ns⟩
    rcases hS with h | ⟨o, h⟩
    · exact .inl ⟨h, fun z => z.elim id id⟩
    · exact .inr ⟨o, h⟩
  refine ⟨fun _ => False, fun _ => False, [.val (.lst (ns.map D.int))], rfl, ⟨rfl, fun i d e => ?_, fun i ds e => ?_, fun i j a ds es e => ?_, fun _ z => z.elim False.elim False.elim, fun _ z => z.elim⟩, fun _ z => z.elim, fun i ds e => ?_, ?_⟩
  · match i, e with
    | 0, e => cases e; exact ⟨.ref a, rfl, r⟩
    | i + 1, e => simp at e
  · match i, e with
    | 0, e => cases e
    | i + 1, e => simp at e
  · match i, e with
    | 0, e => cases e
    | i + 1, e => simp at e
  · match i, e with
    | 0, e => cases e
    | i + 1, e => simp at e
  · rw [h]
    intro v M' H' _ _ rv
    have rv : Rep K (Fb (fun _ => False) M') H' v (.bl true) := rv
    rw [Rep] at rv
    exact rv
theorem cx_none {P : Program} {w : World} {outer : List Env} {H : Hp} {s : Shared} {e : Value} {s' : Shared} (h : L2.CX P w outer H s (fun _ _ _ => False) e s') : False := by
  obtain ⟨_, _, _, _, _, _, _, _, _, _, _, _, z⟩ := h
  exact z
theorem cns_ok {cn : List (Str × D)} {Q : Str → D → Prop} (h : ∀ p ∈ cn, Q p.1 p.2) : ∀ x d, cn.lookup x = some d → Q x d := by
  intro x d e
  induction cn with
  | nil => cases e
  | cons p cn ih =>
    rw [List.lookup_cons] at e
    split at e
    · rename_i hx
      cases e
      have := eq_of_beq hx
      rw [this]
      exact h p List.mem_cons_self
    · exact ih (fun q hq => h q (List.mem_cons_of_mem _ hq)) e
end DL

set_option Elab.async false
set_option linter.all false
set_option maxRecDepth 100000
set_option maxHeartbeats 4000000
namespace DL
open PySem PySem.Spec PyProof.Rows L2

/-! ## what a run comes to -/
def Post {α : Type} (r : R α) (Q : α → Prop) : Prop := match r with
  | .ok a => Q a
  | _ => False
def On {α : Type} (o : Option α) (Q : α → Prop) : Prop := match o with
  | some a => Q a
  | none => False
def If (b : Bool) (A B : Prop) : Prop := if b = true then A else B
theorem If.mk {b : Bool} {A B : Prop} (h1 : b = true → A) (h2 : b = false → B) : If b A B := by
  cases b with
  | true => exact h1 rfl
  | false => exact h2 rfl
/-- held back until it is known which way it goes -/
def Hd {α : Type} (r : R α) (Q : α → Prop) : Prop := Post r Q
def Ap {α : Type} (Q : α → Prop) (x : α) : Prop := Q x
@[simp low] theorem If_true (A B : Prop) : If true A B = A := propext Iff.rfl
@[simp low] theorem If_false (A B : Prop) : If false A B = B := if_neg Bool.false_ne_true
section
variable {α β : Type} {b : Bool} {r : R α} {r' : R β} {Q : α → Prop} {Q' : β → Prop} {x : α} {y : β} {A : Prop}
@[simp] theorem If_tH : If true (Hd r Q) A = Post r Q := propext Iff.rfl
@[simp] theorem If_fH : If false A (Hd r Q) = Post r Q := propext Iff.rfl
@[simp] theorem If_tA : If true (Ap Q x) A = Q x := propext Iff.rfl
@[simp] theorem If_fA : If false A (Ap Q x) = Q x := propext Iff.rfl
theorem If.hh (h1 : b = true → Post r Q) (h2 : b = false → Post r' Q') : If b (Hd r Q) (Hd r' Q') := If.mk h1 h2
theorem If.ha (h1 : b = true → Post r Q) (h2 : b = false → Q' y) : If b (Hd r Q) (Ap Q' y) := If.mk h1 h2
theorem If.ah (h1 : b = true → Q x) (h2 : b = false → Post r' Q') : If b (Ap Q x) (Hd r' Q') := If.mk h1 h2
theorem If.aa (h1 : b = true → Q x) (h2 : b = false → Q' y) : If b (Ap Q x) (Ap Q' y) := If.mk h1 h2
end
section
variable {α β : Type} {Γ : Gam} {l : Loc}
@[simp] theorem Post_ok (a : α) (Q : α → Prop) : Post (.ok a) Q = Q a := propext Iff.rfl
@[simp] theorem Post_bad (Q : α → Prop) : Post (.bad : R α) Q = False := propext Iff.rfl
@[simp] theorem On_some (a : α) (Q : α → Prop) : On (some a) Q = Q a := propext Iff.rfl
@[simp] theorem On_none (Q : α → Prop) : On (none : Option α) Q = False := propext Iff.rfl
theorem Post.bind {r : R α} {f : α → R β} {Q : β → Prop} : Post (r.bind f) Q ↔ Post r fun a => Post (f a) Q := by cases r <;> exact Iff.rfl
theorem Post.imp {r : R α} {Q Q' : α → Prop} (h : Post r Q) (g : ∀ a, Q a → Q' a) : Post r Q' := by
  cases r with
  | ok a => exact g a h
  | exc x l => exact h
  | bad => exact h
theorem Post.eq {r : R α} {a : α} (h : Post r fun b => b = a) : r = .ok a := by
  cases r with
  | ok b => exact congrArg R.ok h
  | exc x l => exact h.elim
  | bad => exact h.elim
theorem post_ite {c : Prop} [Decidable c] {a b : R α} {Q : α → Prop} : Post (if c then a else b) Q ↔ if c then Post a Q else Post b Q := by split <;> exact Iff.rfl
theorem post_on {o : Option α} {f : α → R β} {Q : β → Prop} : Post (match o with | some a => f a | none => .bad) Q ↔ On o fun a => Post (f a) Q := by cases o <;> exact Iff.rfl

/-! ### expressions -/
@[simp] theorem p_var {i : Nat} {Q : Sl × Loc → Prop} : Post (evX Γ (.var i) l) Q ↔ On l[i]? fun s => match s with
    | .val d => Q (.val d, l)
    | .own ds => Q (.val (.lst ds), l.set i (.val (.lst ds)))
    | .un => False := by
  rw [evX.eq_def]; dsimp only
  cases l[i]? with
  | none => exact Iff.rfl
  | some s => cases s <;> exact Iff.rfl
@[simp] theorem p_cst {d : D} {Q : Sl × Loc → Prop} : Post (evX Γ (.cst d) l) Q ↔ Q (.val d, l) := by rw [evX.eq_def]; exact Iff.rfl
@[simp] theorem p_prim {p : Prim} {es : List E} {Q : Sl × Loc → Prop} : Post (evX Γ (.prim p es) l) Q ↔ Post (evAs Γ es l) fun r => On (resL r.2 r.1) fun ds => On (primD p ds) fun s => Q (s, r.2) := by
  rw [evX.eq_def]; dsimp only
  rw [Post.bind]
  have : ∀ r : List A × Loc, Post (match resL r.2 r.1 with | some ds => (match primD p ds with | some s => R.ok (s, r.2) | none => .bad) | none => .bad) Q ↔ On (resL r.2 r.1) fun ds => On (primD p ds) fun s => Q (s, r.2) := fun r => by
    cases resL r.2 r.1 with
    | none => exact Iff.rfl
    | some ds => dsimp only [On]; cases primD p ds <;> exact Iff.rfl
  exact ⟨fun h => h.imp fun a q => (this a).mp q, fun h => h.imp fun a q => (this a).mpr q⟩
@[simp] theorem p_pack {t : Bool} {es : List E} {Q : Sl × Loc → Prop} : Post (evX Γ (.pack t es) l) Q ↔ Post (evDs Γ es l) fun r => r.1.length ≤ 16777216 ∧ Q (if t then .val (.tup r.1) else .own r.1, r.2) := by
  rw [evX.eq_def]; dsimp only
  rw [Post.bind]
  have : ∀ r : List D × Loc, Post (if r.1.length ≤ 16777216 then R.ok (if t then .val (.tup r.1) else .own r.1, r.2) else .bad) Q ↔ r.1.length ≤ 16777216 ∧ Q (if t then .val (.tup r.1) else .own r.1, r.2) := fun r => by
    by_cases h : r.1.length ≤ 16777216
    · rw [if_pos h]; exact ⟨fun q => ⟨h, q⟩, fun q => q.2⟩
    · rw [if_neg h]; exact ⟨fun q => q.elim, fun q => h q.1⟩
  exact ⟨fun h => h.imp fun a q => (this a).mp q, fun h => h.imp fun a q => (this a).mpr q⟩
def bT : Sl → Bool → Prop
  | .val (.bl true), b => b = true
  | .val (.bl false), b => b = false
  | _, _ => False
/-- a truth value -/
def Bl (s : Sl) (Q : Bool → Prop) : Prop := match s with
  | .val (.bl b) => Q b
  | _ => False
@[simp] theorem Bl_bl (b : Bool) (Q : Bool → Prop) : Bl (.val (.bl b)) Q = Q b := propext Iff.rfl
theorem p_and' {a b : E} {Q : Sl × Loc → Prop} : Post (evX Γ (.and a b) l) Q ↔ Post (evX Γ a l) fun r => Bl r.1 fun c => if c = true then Post (evX Γ b r.2) Q else Q (.val (.bl false), r.2) := by
  rw [evX.eq_def]; dsimp only
  rw [Post.bind]
  have : ∀ r : Sl × Loc, Post (match r.1 with | .val (.bl true) => evX Γ b r.2 | .val (.bl false) => .ok (.val (.bl false), r.2) | _ => .bad) Q ↔ Bl r.1 fun c => if c = true then Post (evX Γ b r.2) Q else Q (.val (.bl false), r.2) := fun r => by
    obtain ⟨s, l⟩ := r
    match s with
    | .un => exact Iff.rfl
    | .own _ => exact Iff.rfl
    | .val (.bl true) => simp
    | .val (.bl false) => simp
    | .val .non | .val (.int _) | .val (.str _) | .val (.tup _) | .val (.lst _) => exact Iff.rfl
  exact ⟨fun h => h.imp fun a q => (this a).mp q, fun h => h.imp fun a q => (this a).mpr q⟩
theorem p_or' {a b : E} {Q : Sl × Loc → Prop} : Post (evX Γ (.or a b) l) Q ↔ Post (evX Γ a l) fun r => Bl r.1 fun c => if c = true then Q (.val (.bl true), r.2) else Post (evX Γ b r.2) Q := by
  rw [evX.eq_def]; dsimp only
  rw [Post.bind]
  have : ∀ r : Sl × Loc, Post (match r.1 with | .val (.bl false) => evX Γ b r.2 | .val (.bl true) => .ok (.val (.bl true), r.2) | _ => .bad) Q ↔ Bl r.1 fun c => if c = true then Q (.val (.bl true), r.2) else Post (evX Γ b r.2) Q := fun r => by
    obtain ⟨s, l⟩ := r
    match s with
    | .un => exact Iff.rfl
    | .own _ => exact Iff.rfl
    | .val (.bl true) => simp
    | .val (.bl false) => simp
    | .val .non | .val (.int _) | .val (.str _) | .val (.tup _) | .val (.lst _) => exact Iff.rfl
  exact ⟨fun h => h.imp fun a q => (this a).mp q, fun h => h.imp fun a q => (this a).mpr q⟩
@[simp] theorem p_not {a : E} {Q : Sl × Loc → Prop} : Post (evX Γ (.not a) l) Q ↔ Post (evX Γ a l) fun r => Bl r.1 fun c => Q (.val (.bl (!c)), r.2) := by
  rw [evX.eq_def]; dsimp only
  rw [Post.bind]
  have : ∀ r : Sl × Loc, Post (match r.1 with | .val (.bl b) => R.ok (Sl.val (.bl (!b)), r.2) | _ => .bad) Q ↔ Bl r.1 fun c => Q (.val (.bl (!c)), r.2) := fun r => by
    obtain ⟨s, l⟩ := r
    match s with
    | .un => exact Iff.rfl
    | .own _ => exact Iff.rfl
    | .val (.bl b) => simp
    | .val .non | .val (.int _) | .val (.str _) | .val (.tup _) | .val (.lst _) => exact Iff.rfl
  exact ⟨fun h => h.imp fun a q => (this a).mp q, fun h => h.imp fun a q => (this a).mpr q⟩
theorem p_ite' {c a b : E} {Q : Sl × Loc → Prop} : Post (evX Γ (.ite c a b) l) Q ↔ Post (evT Γ c l) fun r => if r.1 = true then Post (evX Γ a r.2) Q else Post (evX Γ b r.2) Q := by
  rw [evX.eq_def]; dsimp only
  rw [Post.bind]
  exact ⟨fun h => h.imp fun a q => post_ite.mp q, fun h => h.imp fun a q => post_ite.mpr q⟩
@[simp] theorem p_call {f : Nat} {rf : Option Nat} {pm : List Nat} {es : List E} {Q : Sl × Loc → Prop} : Post (evX Γ (.call f rf pm es) l) Q ↔ Post (evAs Γ es l) fun r => On (argsOf r.2 rf r.1 0 pm) fun args => Post (Γ f args) fun o => On (after r.2 rf r.1 pm o.1 o.2) fun l1 => Q (o.1, l1) := by
  rw [evX.eq_def]; dsimp only
  rw [Post.bind]
  have : ∀ r : List A × Loc, Post (match argsOf r.2 rf r.1 0 pm with | none => .bad | some args => match Γ f args with
      | .ok (s, outs) => (match after r.2 rf r.1 pm s outs with | some l1 => .ok (s, l1) | none => .bad)
      | .exc x _ => if rf.isNone then .exc x r.2 else .bad
      | .bad => .bad) Q ↔ On (argsOf r.2 rf r.1 0 pm) fun args => Post (Γ f args) fun o => On (after r.2 rf r.1 pm o.1 o.2) fun l1 => Q (o.1, l1) := fun r => by
    cases argsOf r.2 rf r.1 0 pm with
    | none => exact Iff.rfl
    | some args =>
      dsimp only [On]
      cases Γ f args with
      | ok o => obtain ⟨s, outs⟩ := o; dsimp only [Post]; cases after r.2 rf r.1 pm s outs <;> exact Iff.rfl
      | exc x l => dsimp only; split <;> exact Iff.rfl
      | bad => exact Iff.rfl
  exact ⟨fun h => h.imp fun a q => (this a).mp q, fun h => h.imp fun a q => (this a).mpr q⟩
@[simp] theorem p_slc {a : E} {b1 b2 : Bool} {es : List E} {Q : Sl × Loc → Prop} : Post (evX Γ (.slc a b1 b2 es) l) Q ↔ Post (evAs Γ [a] l) fun r => Post (evIs Γ es r.2) fun r1 => On (resL r1.2 r.1) fun ds => On (partsD b1 b2 r1.1) fun p => match ds with
    | [d] => On (slD d p) fun s => Q (s, r1.2)
    | _ => False := by
  rw [evX.eq_def]; dsimp only
  rw [Post.bind]
  have : ∀ (r : List A × Loc) (r1 : List Int × Loc), Post (match resL r1.2 r.1, partsD b1 b2 r1.1 with
    | some [d], some p => (match slD d p with | some s => R.ok (s, r1.2) | none => .bad)
    | _, _ => .bad) Q ↔ On (resL r1.2 r.1) fun ds => On (partsD b1 b2 r1.1) fun p => match ds with
    | [d] => On (slD d p) fun s => Q (s, r1.2)
    | _ => False := fun r r1 => by
    cases resL r1.2 r.1 with
    | none => exact Iff.rfl
    | some ds =>
      cases partsD b1 b2 r1.1 with
      | none =>
        match ds with
        | [] => exact Iff.rfl
        | [d] => exact Iff.rfl
        | _ :: _ :: _ => exact Iff.rfl
      | some p =>
        match ds with
        | [] => exact Iff.rfl
        | [d] => dsimp only [On]; cases slD d p <;> exact Iff.rfl
        | _ :: _ :: _ => exact Iff.rfl
  constructor
  · exact fun h => h.imp fun a q => (Post.bind.mp q).imp fun b q => (this a b).mp q
  · exact fun h => h.imp fun a q => Post.bind.mpr (q.imp fun b q => (this a b).mpr q)
theorem p_chain' {p q : Prim} {a b c : E} {Q : Sl × Loc → Prop} : Post (evX Γ (.chain p q a b c) l) Q ↔ Post (evX Γ a l) fun r => Post (evX Γ b r.2) fun r1 => On (primD p [r.1.d, r1.1.d]) fun s => Bl s fun t => if t = true then Post (evX Γ c r1.2) (fun r2 => On (primD q [r1.1.d, r2.1.d]) fun s => Q (s, r2.2)) else Q (.val (.bl false), r1.2) := by
  rw [evX.eq_def]; dsimp only
  rw [Post.bind]
  have h2 : ∀ (r1 r2 : Sl × Loc), Post (match primD q [r1.1.d, r2.1.d] with | some s => R.ok (s, r2.2) | none => .bad) Q ↔ On (primD q [r1.1.d, r2.1.d]) fun s => Q (s, r2.2) := fun r1 r2 => by
    cases primD q [r1.1.d, r2.1.d] <;> exact Iff.rfl
  have : ∀ (r r1 : Sl × Loc), Post (match primD p [r.1.d, r1.1.d] with
    | some (.val (.bl true)) => (evX Γ c r1.2).bind fun r2 => (match primD q [r1.1.d, r2.1.d] with
      | some s => .ok (s, r2.2)
      | none => .bad)
    | some (.val (.bl false)) => .ok (.val (.bl false), r1.2)
    | _ => .bad) Q ↔ On (primD p [r.1.d, r1.1.d]) fun s => Bl s fun t => if t = true then Post (evX Γ c r1.2) (fun r2 => On (primD q [r1.1.d, r2.1.d]) fun s => Q (s, r2.2)) else Q (.val (.bl false), r1.2) := fun r r1 => by
    cases primD p [r.1.d, r1.1.d] with
    | none => exact Iff.rfl
    | some s =>
      match s with
      | .un => exact Iff.rfl
      | .own _ => exact Iff.rfl
      | .val (.bl true) =>
        dsimp only [On, Bl]
        rw [if_pos rfl]
        exact ⟨fun h => (Post.bind.mp h).imp fun a q => (h2 r1 a).mp q, fun h => Post.bind.mpr (h.imp fun a q => (h2 r1 a).mpr q)⟩
      | .val (.bl false) => dsimp only [On, Bl]; rw [if_neg Bool.false_ne_true]; exact Iff.rfl
      | .val .non | .val (.int _) | .val (.str _) | .val (.tup _) | .val (.lst _) => exact Iff.rfl
  constructor
  · exact fun h => h.imp fun a q => (Post.bind.mp q).imp fun b q => (this a b).mp q
  · exact fun h => h.imp fun a q => Post.bind.mpr (q.imp fun b q => (this a b).mpr q)
/-! ### arguments -/
@[simp] theorem p_As_nil {Q : List A × Loc → Prop} : Post (evAs Γ [] l) Q ↔ Q ([], l) := by rw [evAs.eq_def]; exact Iff.rfl
def isV : E → Bool
  | .var _ => true
  | _ => false
@[simp] theorem p_As_var {i : Nat} {es : List E} {Q : List A × Loc → Prop} : Post (evAs Γ (.var i :: es) l) Q ↔ On (res l (.pos i)) fun _ => Post (evAs Γ es l) fun r => Q (.pos i :: r.1, r.2) := by
  rw [evAs.eq_def]; dsimp only
  cases res l (.pos i) with
  | none => exact Iff.rfl
  | some d => exact Post.bind
theorem p_As_cons {e : E} {es : List E} {Q : List A × Loc → Prop} (h : isV e = false) : Post (evAs Γ (e :: es) l) Q ↔ Post (evX Γ e l) fun r => Post (evAs Γ es r.2) fun r2 => Q (.dat r.1.d :: r2.1, r2.2) := by
  rw [evAs.eq_def]
  cases e <;> first
    | (dsimp only; rw [Post.bind]; exact ⟨fun h => h.imp fun a q => Post.bind.mp q, fun h => h.imp fun a q => Post.bind.mpr q⟩)
    | cases h
@[simp] theorem p_Ds_nil {Q : List D × Loc → Prop} : Post (evDs Γ [] l) Q ↔ Q ([], l) := by rw [evDs.eq_def]; exact Iff.rfl
@[simp] theorem p_Ds_cons {e : E} {es : List E} {Q : List D × Loc → Prop} : Post (evDs Γ (e :: es) l) Q ↔ Post (evX Γ e l) fun r => Post (evDs Γ es r.2) fun r2 => Q (r.1.d :: r2.1, r2.2) := by
  rw [evDs.eq_def]; dsimp only
  rw [Post.bind]
  exact ⟨fun h => h.imp fun a q => Post.bind.mp q, fun h => h.imp fun a q => Post.bind.mpr q⟩
@[simp] theorem p_Is_nil {Q : List Int × Loc → Prop} : Post (evIs Γ [] l) Q ↔ Q ([], l) := by rw [evIs.eq_def]; exact Iff.rfl
def Ix (s : Sl) (Q : Int → Prop) : Prop := match s with
  | .val (.int i) => Q i
  | _ => False
@[simp] theorem Ix_int (i : Int) (Q : Int → Prop) : Ix (.val (.int i)) Q = Q i := propext Iff.rfl
@[simp] theorem p_Is_cons {e : E} {es : List E} {Q : List Int × Loc → Prop} : Post (evIs Γ (e :: es) l) Q ↔ Post (evX Γ e l) fun r => Ix r.1 fun i => Post (evIs Γ es r.2) fun r2 => Q (i :: r2.1, r2.2) := by
  rw [evIs.eq_def]; dsimp only
  rw [Post.bind]
  have : ∀ r : Sl × Loc, Post (match r.1 with | .val (.int i) => (evIs Γ es r.2).bind fun r2 => .ok (i :: r2.1, r2.2) | _ => .bad) Q ↔ Ix r.1 fun i => Post (evIs Γ es r.2) fun r2 => Q (i :: r2.1, r2.2) := fun r => by
    obtain ⟨s, l⟩ := r
    match s with
    | .un => exact Iff.rfl
    | .own _ => exact Iff.rfl
    | .val (.int i) => exact Post.bind
    | .val .non | .val (.bl _) | .val (.str _) | .val (.tup _) | .val (.lst _) => exact Iff.rfl
  exact ⟨fun h => h.imp fun a q => (this a).mp q, fun h => h.imp fun a q => (this a).mpr q⟩
/-! ### tests -/
theorem t_and' {a b : E} {Q : Bool × Loc → Prop} : Post (evT Γ (.and a b) l) Q ↔ Post (evT Γ a l) fun r => if r.1 = true then Post (evT Γ b r.2) Q else Q (false, r.2) := by
  rw [evT.eq_def]; dsimp only
  rw [Post.bind]
  exact ⟨fun h => h.imp fun a q => post_ite.mp q, fun h => h.imp fun a q => post_ite.mpr q⟩
theorem t_or' {a b : E} {Q : Bool × Loc → Prop} : Post (evT Γ (.or a b) l) Q ↔ Post (evT Γ a l) fun r => if r.1 = true then Q (true, r.2) else Post (evT Γ b r.2) Q := by
  rw [evT.eq_def]; dsimp only
  rw [Post.bind]
  exact ⟨fun h => h.imp fun a q => post_ite.mp q, fun h => h.imp fun a q => post_ite.mpr q⟩
@[simp] theorem t_not {a : E} {Q : Bool × Loc → Prop} : Post (evT Γ (.not a) l) Q ↔ Post (evT Γ a l) fun r => Q (!r.1, r.2) := by
  rw [evT.eq_def]; dsimp only
  rw [Post.bind]
  exact Iff.rfl
@[simp] theorem t_var {i : Nat} {Q : Bool × Loc → Prop} : Post (evT Γ (.var i) l) Q ↔ On (res l (.pos i)) fun d => On (truth d) fun b => Q (b, l) := by
  rw [evT.eq_def]; dsimp only
  cases res l (.pos i) with
  | none => exact Iff.rfl
  | some d => dsimp only [On]; cases truth d <;> exact Iff.rfl
@[simp] theorem t_cst {d : D} {Q : Bool × Loc → Prop} : Post (evT Γ (.cst d) l) Q ↔ On (truth d) fun b => Q (b, l) := by
  rw [evT.eq_def]; dsimp only
  cases truth d <;> exact Iff.rfl
@[simp] theorem t_prim {p : Prim} {es : List E} {Q : Bool × Loc → Prop} : Post (evT Γ (.prim p es) l) Q ↔ Post (evAs Γ es l) fun r => On (resL r.2 r.1) fun ds => On (primD p ds) fun s => On (truth s.d) fun b => Q (b, r.2) := by
  rw [evT.eq_def]; dsimp only
  rw [Post.bind]
  have : ∀ r : List A × Loc, Post (match resL r.2 r.1 with | some ds => (match primD p ds with | some s => (match truth s.d with | some b => R.ok (b, r.2) | none => .bad) | none => .bad) | none => .bad) Q ↔ On (resL r.2 r.1) fun ds => On (primD p ds) fun s => On (truth s.d) fun b => Q (b, r.2) := fun r => by
    cases resL r.2 r.1 with
    | none => exact Iff.rfl
    | some ds =>
      dsimp only [On]
      cases primD p ds with
      | none => exact Iff.rfl
      | some s => dsimp only; cases truth s.d <;> exact Iff.rfl
  exact ⟨fun h => h.imp fun a q => (this a).mp q, fun h => h.imp fun a q => (this a).mpr q⟩
@[simp] theorem t_call {f : Nat} {rf : Option Nat} {pm : List Nat} {es : List E} {Q : Bool × Loc → Prop} : Post (evT Γ (.call f rf pm es) l) Q ↔ Post (evAs Γ es l) fun r => On (argsOf r.2 rf r.1 0 pm) fun args => Post (Γ f args) fun o => On (after r.2 rf r.1 pm o.1 o.2) fun l1 => On (truth o.1.d) fun b => Q (b, l1) := by
  rw [evT.eq_def]; dsimp only
  rw [Post.bind]
  have : ∀ r : List A × Loc, Post (match argsOf r.2 rf r.1 0 pm with | none => .bad | some args => match Γ f args with
      | .ok (s, outs) => (match after r.2 rf r.1 pm s outs with | some l1 => (match truth s.d with | some b => .ok (b, l1) | none => .bad) | none => .bad)
      | .exc x _ => if rf.isNone then .exc x r.2 else .bad
      | .bad => .bad) Q ↔ On (argsOf r.2 rf r.1 0 pm) fun args => Post (Γ f args) fun o => On (after r.2 rf r.1 pm o.1 o.2) fun l1 => On (truth o.1.d) fun b => Q (b, l1) := fun r => by
    cases argsOf r.2 rf r.1 0 pm with
    | none => exact Iff.rfl
    | some args =>
      dsimp only [On]
      cases Γ f args with
      | ok o =>
        obtain ⟨s, outs⟩ := o
        dsimp only [Post]
        cases after r.2 rf r.1 pm s outs with
        | none => exact Iff.rfl
        | some l1 => dsimp only; cases truth s.d <;> exact Iff.rfl
      | exc x l => dsimp only; split <;> exact Iff.rfl
      | bad => exact Iff.rfl
  exact ⟨fun h => h.imp fun a q => (this a).mp q, fun h => h.imp fun a q => (this a).mpr q⟩
theorem t_chain' {p q : Prim} {a b c : E} {Q : Bool × Loc → Prop} : Post (evT Γ (.chain p q a b c) l) Q ↔ Post (evX Γ a l) fun r => Post (evX Γ b r.2) fun r1 => On (primD p [r.1.d, r1.1.d]) fun s => Bl s fun t => if t = true then Post (evX Γ c r1.2) (fun r2 => On (primD q [r1.1.d, r2.1.d]) fun s => Bl s fun b => Q (b, r2.2)) else Q (false, r1.2) := by
  rw [evT.eq_def]; dsimp only
  rw [Post.bind]
  have h2 : ∀ (r1 r2 : Sl × Loc), Post (match primD q [r1.1.d, r2.1.d] with | some (.val (.bl b)) => R.ok (b, r2.2) | _ => .bad) Q ↔ On (primD q [r1.1.d, r2.1.d]) fun s => Bl s fun b => Q (b, r2.2) := fun r1 r2 => by
    cases primD q [r1.1.d, r2.1.d] with
    | none => exact Iff.rfl
    | some s =>
      match s with
      | .un => exact Iff.rfl
      | .own _ => exact Iff.rfl
      | .val (.bl _) => exact Iff.rfl
      | .val .non | .val (.int _) | .val (.str _) | .val (.tup _) | .val (.lst _) => exact Iff.rfl
  have : ∀ (r r1 : Sl × Loc), Post (match primD p [r.1.d, r1.1.d] with
    | some (.val (.bl true)) => (evX Γ c r1.2).bind fun r2 => (match primD q [r1.1.d, r2.1.d] with
      | some (.val (.bl b)) => .ok (b, r2.2)
      | _ => .bad)
    | some (.val (.bl false)) => .ok (false, r1.2)
    | _ => .bad) Q ↔ On (primD p [r.1.d, r1.1.d]) fun s => Bl s fun t => if t = true then Post (evX Γ c r1.2) (fun r2 => On (primD q [r1.1.d, r2.1.d]) fun s => Bl s fun b => Q (b, r2.2)) else Q (false, r1.2) := fun r r1 => by
    cases primD p [r.1.d, r1.1.d] with
    | none => exact Iff.rfl
    | some s =>
      match s with
      | .un => exact Iff.rfl
      | .own _ => exact Iff.rfl
      | .val (.bl true) =>
        dsimp only [On, Bl]
        rw [if_pos rfl]
        exact ⟨fun h => (Post.bind.mp h).imp fun a q => (h2 r1 a).mp q, fun h => Post.bind.mpr (h.imp fun a q => (h2 r1 a).mpr q)⟩
      | .val (.bl false) => dsimp only [On, Bl]; rw [if_neg Bool.false_ne_true]; exact Iff.rfl
      | .val .non | .val (.int _) | .val (.str _) | .val (.tup _) | .val (.lst _) => exact Iff.rfl
  constructor
  · exact fun h => h.imp fun a q => (Post.bind.mp q).imp fun b q => (this a b).mp q
  · exact fun h => h.imp fun a q => Post.bind.mpr (q.imp fun b q => (this a b).mpr q)
@[simp] theorem p_and {a b : E} {Q : Sl × Loc → Prop} : Post (evX Γ (.and a b) l) Q ↔ Post (evX Γ a l) fun r => Bl r.1 fun c => If c (Hd (evX Γ b r.2) Q) (Ap Q (.val (.bl false), r.2)) := p_and'
@[simp] theorem p_or {a b : E} {Q : Sl × Loc → Prop} : Post (evX Γ (.or a b) l) Q ↔ Post (evX Γ a l) fun r => Bl r.1 fun c => If c (Ap Q (.val (.bl true), r.2)) (Hd (evX Γ b r.2) Q) := p_or'
@[simp] theorem p_ite {c a b : E} {Q : Sl × Loc → Prop} : Post (evX Γ (.ite c a b) l) Q ↔ Post (evT Γ c l) fun r => If r.1 (Hd (evX Γ a r.2) Q) (Hd (evX Γ b r.2) Q) := p_ite'
@[simp] theorem t_and {a b : E} {Q : Bool × Loc → Prop} : Post (evT Γ (.and a b) l) Q ↔ Post (evT Γ a l) fun r => If r.1 (Hd (evT Γ b r.2) Q) (Ap Q (false, r.2)) := t_and'
@[simp] theorem t_or {a b : E} {Q : Bool × Loc → Prop} : Post (evT Γ (.or a b) l) Q ↔ Post (evT Γ a l) fun r => If r.1 (Ap Q (true, r.2)) (Hd (evT Γ b r.2) Q) := t_or'
@[simp] theorem p_chain {p q : Prim} {a b c : E} {Q : Sl × Loc → Prop} : Post (evX Γ (.chain p q a b c) l) Q ↔ Post (evX Γ a l) fun r => Post (evX Γ b r.2) fun r1 => On (primD p [r.1.d, r1.1.d]) fun s => Bl s fun t => If t (Hd (evX Γ c r1.2) (fun r2 => On (primD q [r1.1.d, r2.1.d]) fun s => Q (s, r2.2))) (Ap Q (.val (.bl false), r1.2)) := p_chain'
@[simp] theorem t_chain {p q : Prim} {a b c : E} {Q : Bool × Loc → Prop} : Post (evT Γ (.chain p q a b c) l) Q ↔ Post (evX Γ a l) fun r => Post (evX Γ b r.2) fun r1 => On (primD p [r.1.d, r1.1.d]) fun s => Bl s fun t => If t (Hd (evX Γ c r1.2) (fun r2 => On (primD q [r1.1.d, r2.1.d]) fun s => Bl s fun b => Q (b, r2.2))) (Ap Q (false, r1.2)) := t_chain'
@[simp] theorem p_As_cst {d : D} {es : List E} {Q : List A × Loc → Prop} : Post (evAs Γ (.cst d :: es) l) Q ↔ Post (evX Γ (.cst d) l) fun r => Post (evAs Γ es r.2) fun r2 => Q (.dat r.1.d :: r2.1, r2.2) := p_As_cons rfl
@[simp] theorem p_As_prim {p : Prim} {fs : List E} {es : List E} {Q : List A × Loc → Prop} : Post (evAs Γ (.prim p fs :: es) l) Q ↔ Post (evX Γ (.prim p fs) l) fun r => Post (evAs Γ es r.2) fun r2 => Q (.dat r.1.d :: r2.1, r2.2) := p_As_cons rfl
@[simp] theorem p_As_pack {t : Bool} {fs : List E} {es : List E} {Q : List A × Loc → Prop} : Post (evAs Γ (.pack t fs :: es) l) Q ↔ Post (evX Γ (.pack t fs) l) fun r => Post (evAs Γ es r.2) fun r2 => Q (.dat r.1.d :: r2.1, r2.2) := p_As_cons rfl
@[simp] theorem p_As_and {a b : E} {es : List E} {Q : List A × Loc → Prop} : Post (evAs Γ (.and a b :: es) l) Q ↔ Post (evX Γ (.and a b) l) fun r => Post (evAs Γ es r.2) fun r2 => Q (.dat r.1.d :: r2.1, r2.2) := p_As_cons rfl
@[simp] theorem p_As_or {a b : E} {es : List E} {Q : List A × Loc → Prop} : Post (evAs Γ (.or a b :: es) l) Q ↔ Post (evX Γ (.or a b) l) fun r => Post (evAs Γ es r.2) fun r2 => Q (.dat r.1.d :: r2.1, r2.2) := p_As_cons rfl
@[simp] theorem p_As_not {a : E} {es : List E} {Q : List A × Loc → Prop} : Post (evAs Γ (.not a :: es) l) Q ↔ Post (evX Γ (.not a) l) fun r => Post (evAs Γ es r.2) fun r2 => Q (.dat r.1.d :: r2.1, r2.2) := p_As_cons rfl
@[simp] theorem p_As_ite {c a b : E} {es : List E} {Q : List A × Loc → Prop} : Post (evAs Γ (.ite c a b :: es) l) Q ↔ Post (evX Γ (.ite c a b) l) fun r => Post (evAs Γ es r.2) fun r2 => Q (.dat r.1.d :: r2.1, r2.2) := p_As_cons rfl
@[simp] theorem p_As_chain {p q : Prim} {a b c : E} {es : List E} {Q : List A × Loc → Prop} : Post (evAs Γ (.chain p q a b c :: es) l) Q ↔ Post (evX Γ (.chain p q a b c) l) fun r => Post (evAs Γ es r.2) fun r2 => Q (.dat r.1.d :: r2.1, r2.2) := p_As_cons rfl
@[simp] theorem p_As_call {f : Nat} {rf : Option Nat} {pm : List Nat} {fs : List E} {es : List E} {Q : List A × Loc → Prop} : Post (evAs Γ (.call f rf pm fs :: es) l) Q ↔ Post (evX Γ (.call f rf pm fs) l) fun r => Post (evAs Γ es r.2) fun r2 => Q (.dat r.1.d :: r2.1, r2.2) := p_As_cons rfl
@[simp] theorem p_As_slc {a : E} {b1 b2 : Bool} {fs : List E} {es : List E} {Q : List A × Loc → Prop} : Post (evAs Γ (.slc a b1 b2 fs :: es) l) Q ↔ Post (evX Γ (.slc a b1 b2 fs) l) fun r => Post (evAs Γ es r.2) fun r2 => Q (.dat r.1.d :: r2.1, r2.2) := p_As_cons rfl
@[simp] theorem p_As_comp {e : E} {t : Tg} {k : Nat} {is fs : List E} {ws : List Nat} {es : List E} {Q : List A × Loc → Prop} : Post (evAs Γ (.comp e t k is fs ws :: es) l) Q ↔ Post (evX Γ (.comp e t k is fs ws) l) fun r => Post (evAs Γ es r.2) fun r2 => Q (.dat r.1.d :: r2.1, r2.2) := p_As_cons rfl
end
end DL

set_option Elab.async false
set_option linter.all false
set_option maxRecDepth 100000
set_option maxHeartbeats 4000000
namespace DL
open PySem PySem.Spec PyProof.Rows L2

section
variable {α β : Type} {Γ : Gam} {l : Loc} {Q : Fl × Loc → Prop}
theorem post_iff {r : R α} {Q Q' : α → Prop} (h : ∀ a, Q a ↔ Q' a) : Post r Q ↔ Post r Q' := ⟨fun q => q.imp fun a => (h a).mp, fun q => q.imp fun a => (h a).mpr⟩
theorem bind_iff {r : R α} {f : α → R β} {Q : β → Prop} {Q' : α → Prop} (h : ∀ a, Post (f a) Q ↔ Q' a) : Post (r.bind f) Q ↔ Post r Q' := Post.bind.trans (post_iff h)
theorem ite_bad {c : Prop} [Decidable c] {a : α} {Q : α → Prop} : Post (if c then .ok a else .bad) Q ↔ c ∧ Q a := by
  by_cases h : c
  · rw [if_pos h]; exact ⟨fun q => ⟨h, q⟩, fun q => q.2⟩
  · rw [if_neg h]; exact ⟨fun q => q.elim, fun q => h q.1⟩
theorem ite_bad' {c : Prop} [Decidable c] {r : R α} {Q : α → Prop} : Post (if c then r else .bad) Q ↔ c ∧ Post r Q := by
  by_cases h : c
  · rw [if_pos h]; exact ⟨fun q => ⟨h, q⟩, fun q => q.2⟩
  · rw [if_neg h]; exact ⟨fun q => q.elim, fun q => h q.1⟩
def seqQ (Γ : Gam) (ss : List S) (Q : Fl × Loc → Prop) : Fl × Loc → Prop := fun r => match r.1 with
  | .nx => Post (exB Γ ss r.2) Q
  | f => Q (f, r.2)
@[simp] theorem seqQ_nx (ss : List S) {s : Sl} : seqQ Γ ss Q (.nx, s :: l) = Post (exB Γ ss (s :: l)) Q := propext Iff.rfl
@[simp] theorem seqQ_brk (ss : List S) : seqQ Γ ss Q (.brk, l) = Q (.brk, l) := propext Iff.rfl
@[simp] theorem seqQ_cnt (ss : List S) : seqQ Γ ss Q (.cnt, l) = Q (.cnt, l) := propext Iff.rfl
@[simp] theorem seqQ_ret (ss : List S) (s : Sl) : seqQ Γ ss Q (.ret s, l) = Q (.ret s, l) := propext Iff.rfl
@[simp] theorem b_nil : Post (exB Γ [] l) Q ↔ Q (.nx, l) := by rw [exB.eq_def]; exact Iff.rfl
@[simp] theorem b_cons {s : S} {ss : List S} : Post (exB Γ (s :: ss) l) Q ↔ Post (exS Γ s l) (seqQ Γ ss Q) := by
  rw [exB.eq_def]; dsimp only
  refine bind_iff fun r => ?_
  obtain ⟨f, l⟩ := r
  cases f <;> exact Iff.rfl
def Ni (d : D) (Q : Int → Prop) : Prop := match d with
  | .int i => Q i
  | _ => False
@[simp] theorem Ni_int (i : Int) (Q : Int → Prop) : Ni (.int i) Q = Q i := propext Iff.rfl
@[simp] theorem s_set {i : Nat} {e : E} : Post (exS Γ (.set i e) l) Q ↔ Post (evX Γ e l) fun r => i < r.2.length ∧ Q (.nx, r.2.set i r.1) := by
  rw [exS.eq_def]; dsimp only
  exact bind_iff fun r => ite_bad
@[simp] theorem s_asg {t : Tg} {e : E} : Post (exS Γ (.asg t e) l) Q ↔ Post (evX Γ e l) fun r => On (bindT t r.1.d r.2) fun l1 => Q (.nx, l1) := by
  rw [exS.eq_def]; dsimp only
  exact bind_iff fun r => by cases bindT t r.1.d r.2 <;> exact Iff.rfl
@[simp] theorem s_par {is : List Nat} {es : List E} : Post (exS Γ (.par is es) l) Q ↔ Post (evDs Γ es l) fun r => On (setAll r.2 is r.1) fun l1 => Q (.nx, l1) := by
  rw [exS.eq_def]; dsimp only
  exact bind_iff fun r => by cases setAll r.2 is r.1 <;> exact Iff.rfl
@[simp] theorem s_aug {i : Nat} {p : Prim} {e : E} : Post (exS Γ (.aug i p e) l) Q ↔ On (res l (.pos i)) fun _ => Post (evX Γ e l) fun r => On (res r.2 (.pos i)) fun d => On (augD p d r.1.d) fun x => i < r.2.length ∧ Q (.nx, r.2.set i (.val (.int x))) := by
  rw [exS.eq_def]; dsimp only
  cases res l (.pos i) with
  | none => exact Iff.rfl
  | some d0 =>
    refine bind_iff fun r => ?_
    cases res r.2 (.pos i) with
    | none => exact Iff.rfl
    | some d =>
      dsimp only [On]
      cases augD p d r.1.d with
      | none => exact Iff.rfl
      | some x => exact ite_bad
@[simp] theorem s_setix {i : Nat} {k e : E} : Post (exS Γ (.setix i k e) l) Q ↔ Post (evX Γ e l) fun r => On (ownAt r.2 i) fun _ => Post (evX Γ k r.2) fun r1 => On (ownAt r1.2 i) fun ds => Ni r1.1.d fun j => On (ixN ds.length j) fun m => Q (.nx, r1.2.set i (.own (ds.set m r.1.d))) := by
  rw [exS.eq_def]; dsimp only
  refine bind_iff fun r => ?_
  cases ownAt r.2 i with
  | none => exact Iff.rfl
  | some ds0 =>
    refine bind_iff fun r1 => ?_
    cases ownAt r1.2 i with
    | none => cases r1.1.d <;> exact Iff.rfl
    | some ds =>
      cases r1.1.d with
      | int j => dsimp only [On, Ni]; cases ixN ds.length j <;> exact Iff.rfl
      | _ => exact Iff.rfl
@[simp] theorem s_augix {i : Nat} {k e : E} {p : Prim} : Post (exS Γ (.augix i k p e) l) Q ↔ On (ownAt l i) fun _ => Post (evX Γ k l) fun r => On (ownAt r.2 i) fun ds => Ni r.1.d fun j => On (atI ds j) fun d => Post (evX Γ e r.2) fun r1 => On (ownAt r1.2 i) fun ds1 => On (augD p d r1.1.d) fun x => On (ixN ds1.length j) fun m => Q (.nx, r1.2.set i (.own (ds1.set m (.int x)))) := by
  rw [exS.eq_def]; dsimp only
  cases ownAt l i with
  | none => exact Iff.rfl
  | some ds0 =>
    refine bind_iff fun r => ?_
    cases ownAt r.2 i with
    | none => cases r.1.d <;> exact Iff.rfl
    | some ds =>
      cases r.1.d with
      | int j =>
        dsimp only [On, Ni]
        cases atI ds j with
        | none => exact Iff.rfl
        | some d =>
          refine bind_iff fun r1 => ?_
          cases ownAt r1.2 i with
          | none => cases augD p d r1.1.d <;> exact Iff.rfl
          | some ds1 =>
            dsimp only [On]
            cases augD p d r1.1.d with
            | none => exact Iff.rfl
            | some x => dsimp only; cases ixN ds1.length j <;> exact Iff.rfl
      | _ => exact Iff.rfl
@[simp] theorem s_app {i : Nat} {e : E} : Post (exS Γ (.app i e) l) Q ↔ On (ownAt l i) fun _ => Post (evX Γ e l) fun r => On (ownAt r.2 i) fun ds => ds.length < 16777216 ∧ Q (.nx, r.2.set i (.own (ds ++ [r.1.d]))) := by
  rw [exS.eq_def]; dsimp only
  cases ownAt l i with
  | none => exact Iff.rfl
  | some ds0 =>
    refine bind_iff fun r => ?_
    cases ownAt r.2 i with
    | none => exact Iff.rfl
    | some ds => exact ite_bad
@[simp] theorem s_ex {e : E} : Post (exS Γ (.ex e) l) Q ↔ Post (evX Γ e l) fun r => Q (.nx, r.2) := by
  rw [exS.eq_def]; dsimp only
  exact bind_iff fun r => Iff.rfl
@[simp] theorem s_ite {c : E} {a b : List S} : Post (exS Γ (.ite c a b) l) Q ↔ Post (evT Γ c l) fun r => If r.1 (Hd (exB Γ a r.2) Q) (Hd (exB Γ b r.2) Q) := by
  rw [exS.eq_def]; dsimp only
  exact bind_iff fun r => post_ite
@[simp] theorem s_whl {c : E} {b : List S} : Post (exS Γ (.whl c b) l) Q ↔ Post (whileL (evT Γ c) (exB Γ b) whileFuel l) Q := by
  rw [exS.eq_def]
@[simp] theorem s_fer {t : Tg} {ik : Nat} {ies : List E} {b : List S} : Post (exS Γ (.fer t ik ies b) l) Q ↔ Post (evDs Γ ies l) fun r => On (items ik r.1) fun xs => Post (forL (bindT t) (exB Γ b) xs r.2) Q := by
  rw [exS.eq_def]; dsimp only
  exact bind_iff fun r => by cases items ik r.1 <;> exact Iff.rfl
@[simp] theorem s_ret {e : E} : Post (exS Γ (.ret e) l) Q ↔ Post (evX Γ e l) fun r => Q (.ret r.1, r.2) := by
  rw [exS.eq_def]; dsimp only
  exact bind_iff fun r => Iff.rfl
@[simp] theorem s_retv {i : Nat} : Post (exS Γ (.retv i) l) Q ↔ On l[i]? fun s => match s with
    | .own ds => Q (.ret (.own ds), l.set i .un)
    | .val d => Q (.ret (.val d), l)
    | .un => False := by
  rw [exS.eq_def]; dsimp only
  cases l[i]? with
  | none => exact Iff.rfl
  | some s => cases s <;> exact Iff.rfl
@[simp] theorem s_brk : Post (exS Γ .brk l) Q ↔ Q (.brk, l) := by rw [exS.eq_def]; exact Iff.rfl
@[simp] theorem s_cnt : Post (exS Γ .cnt l) Q ↔ Q (.cnt, l) := by rw [exS.eq_def]; exact Iff.rfl
@[simp] theorem s_pas : Post (exS Γ .pas l) Q ↔ Q (.nx, l) := by rw [exS.eq_def]; exact Iff.rfl

/-! ### loops -/
def loopQ (I : Loc → Prop) (Q : Fl × Loc → Prop) : Fl × Loc → Prop := fun r => match r.1 with
  | .nx => I r.2
  | .cnt => I r.2
  | .brk => Q (.nx, r.2)
  | .ret s => Q (.ret s, r.2)
@[simp] theorem loopQ_nx (I : Loc → Prop) : loopQ I Q (.nx, l) = I l := propext Iff.rfl
@[simp] theorem loopQ_cnt (I : Loc → Prop) : loopQ I Q (.cnt, l) = I l := propext Iff.rfl
@[simp] theorem loopQ_brk (I : Loc → Prop) : loopQ I Q (.brk, l) = Q (.nx, l) := propext Iff.rfl
@[simp] theorem loopQ_ret (I : Loc → Prop) (s : Sl) : loopQ I Q (.ret s, l) = Q (.ret s, l) := propext Iff.rfl
theorem forL_nil {bd : D → Loc → Option Loc} {body : Loc → R (Fl × Loc)} : Post (forL bd body [] l) Q ↔ Q (.nx, l) := Iff.rfl
theorem forL_cons {bd : D → Loc → Option Loc} {body : Loc → R (Fl × Loc)} {d : D} {ds : List D} : Post (forL bd body (d :: ds) l) Q ↔ On (bd d l) fun l1 => Post (body l1) (loopQ (fun l2 => Post (forL bd body ds l2) Q) Q) := by
  rw [forL]
  cases bd d l with
  | none => exact Iff.rfl
  | some l1 =>
    refine bind_iff fun r => ?_
    obtain ⟨f, l2⟩ := r
    cases f <;> exact Iff.rfl
theorem loopQ_imp {I I' : Loc → Prop} (h : ∀ l, I l → I' l) (r : Fl × Loc) (q : loopQ I Q r) : loopQ I' Q r := by
  obtain ⟨f, l⟩ := r
  cases f with
  | nx => exact h _ q
  | cnt => exact h _ q
  | brk => exact q
  | ret s => exact q
theorem forL_inv {bd : D → Loc → Option Loc} {body : Loc → R (Fl × Loc)} (I : List D → Loc → Prop) {xs : List D} (h : I xs l) (step : ∀ d ds l, I (d :: ds) l → On (bd d l) fun l1 => Post (body l1) (loopQ (I ds) Q)) (done : ∀ l, I [] l → Q (.nx, l)) : Post (forL bd body xs l) Q := by
  induction xs generalizing l with
  | nil => exact done l h
  | cons d ds ih =>
    rw [forL_cons]
    have s := step d ds l h
    cases e : bd d l with
    | none => rw [e] at s; exact s.elim
    | some l1 =>
      rw [e] at s
      exact Post.imp s fun r q => loopQ_imp (fun l2 h2 => ih h2) r q
/-- as forL_inv, by the place -/
theorem forL_ix {bd : D → Loc → Option Loc} {body : Loc → R (Fl × Loc)} (I : Nat → Loc → Prop) {xs : List D} (h : I 0 l) (step : ∀ i d l, xs[i]? = some d → I i l → On (bd d l) fun l1 => Post (body l1) (loopQ (I (i + 1)) Q)) (done : ∀ l, I xs.length l → Q (.nx, l)) : Post (forL bd body xs l) Q := by
  refine forL_inv (fun ds l => ∃ i, ds = xs.drop i ∧ i ≤ xs.length ∧ I i l) ⟨0, rfl, Nat.zero_le _, h⟩ (fun d ds l ⟨i, e, hi, hI⟩ => ?_) (fun l ⟨i, e, hi, hI⟩ => ?_)
  · have lt : i < xs.length := by
      rcases Nat.lt_or_ge i xs.length with q | q
      · exact q
      · rw [List.drop_of_length_le q] at e; cases e
    rw [List.drop_eq_getElem_cons lt] at e
    injection e with e1 e2
    have s := step i d l (by rw [List.getElem?_eq_getElem lt, e1]) hI
    cases eb : bd d l with
    | none => rw [eb] at s; exact s
    | some l1 =>
      rw [eb] at s
      exact Post.imp s fun r q => loopQ_imp (fun l2 h2 => ⟨i + 1, e2, lt, h2⟩) r q
  · have : i = xs.length := by
      have := congrArg List.length e
      rw [List.length_drop, List.length_nil] at this
      omega
    subst this
    exact done l hI
theorem whileL_inv {c : Loc → R (Bool × Loc)} {body : Loc → R (Fl × Loc)} (I : Nat → Loc → Prop) {n m : Nat} (hm : m < n) (h : I m l)
    (step : ∀ m l, I m l → Post (c l) fun r => If r.1 (Hd (body r.2) (loopQ (fun l2 => ∃ k, k < m ∧ I k l2) Q)) (Ap Q (.nx, r.2))) : Post (whileL c body n l) Q := by
  induction n generalizing l m with
  | zero => omega
  | succ n ih =>
    rw [whileL]
    refine Post.bind.mpr ((step m l h).imp fun r q => ?_)
    cases hr : r.1 with
    | true =>
      rw [hr, If_tH] at q
      rw [if_pos rfl]
      refine Post.bind.mpr (q.imp fun r2 q2 => ?_)
      obtain ⟨f, l2⟩ := r2
      cases f with
      | nx => obtain ⟨k, hk, q3⟩ := q2; exact ih (show k < n by omega) q3
      | cnt => obtain ⟨k, hk, q3⟩ := q2; exact ih (show k < n by omega) q3
      | brk => exact q2
      | ret s => exact q2
    | false =>
      rw [hr, If_fA] at q
      rw [if_neg Bool.false_ne_true]
      exact q
/-! ### defs -/
def endQ (np : Nat) (rf : Option Nat) (Q : Sl × List Sl → Prop) : Fl × Loc → Prop := fun r => match r.1 with
  | .nx => On (outsOf r.2 np rf) fun o => Q (.val .non, o)
  | .ret s => On (outsOf r.2 np rf) fun o => Q (s, o)
  | _ => False
@[simp] theorem endQ_nx {np : Nat} {rf : Option Nat} {Q : Sl × List Sl → Prop} : endQ np rf Q (.nx, l) = On (outsOf l np rf) fun o => Q (.val .non, o) := propext Iff.rfl
@[simp] theorem endQ_ret {np : Nat} {rf : Option Nat} {Q : Sl × List Sl → Prop} {s : Sl} : endQ np rf Q (.ret s, l) = On (outsOf l np rf) fun o => Q (s, o) := propext Iff.rfl
@[simp] theorem endQ_brk {np : Nat} {rf : Option Nat} {Q : Sl × List Sl → Prop} : endQ np rf Q (.brk, l) = False := propext Iff.rfl
@[simp] theorem endQ_cnt {np : Nat} {rf : Option Nat} {Q : Sl × List Sl → Prop} : endQ np rf Q (.cnt, l) = False := propext Iff.rfl
theorem post_run {fd : FD} {args : List Sl} {Q : Sl × List Sl → Prop} : Post (runF Γ fd args) Q ↔ args.length = fd.np ∧ Post (exB Γ fd.body (args ++ List.replicate (fd.nl - fd.np) .un)) (endQ fd.np fd.rf Q) := by
  unfold runF
  rw [ite_bad']
  refine and_congr Iff.rfl ?_
  cases exB Γ fd.body (args ++ List.replicate (fd.nl - fd.np) .un) with
  | bad => exact Iff.rfl
  | exc x l => exact Iff.rfl
  | ok r =>
    obtain ⟨f, l⟩ := r
    cases f with
    | nx => dsimp only; rw [Post_ok, endQ_nx]; cases outsOf l fd.np fd.rf <;> exact Iff.rfl
    | brk => exact Iff.rfl
    | cnt => exact Iff.rfl
    | ret s => dsimp only; rw [Post_ok, endQ_ret]; cases outsOf l fd.np fd.rf <;> exact Iff.rfl
theorem post_fn {P : Nat → Option FD} {f n : Nat} {fd : FD} {args : List Sl} {Q : Sl × List Sl → Prop} (h : P f = some fd) : Post (callF P (n + 1) f args) Q ↔ args.length = fd.np ∧ Post (exB (callF P n) fd.body (args ++ List.replicate (fd.nl - fd.np) .un)) (endQ fd.np fd.rf Q) := by
  rw [callF, h]; exact post_run
end

/-! ### operations -/
@[simp] theorem o_add (i j : Int) : primD .add [.int i, .int j] = some (.val (.int (i + j))) := rfl
@[simp] theorem o_sub (i j : Int) : primD .sub [.int i, .int j] = some (.val (.int (i - j))) := rfl
@[simp] theorem o_neg (i : Int) : primD .neg [.int i] = some (.val (.int (-i))) := rfl
@[simp] theorem o_lt (i j : Int) : primD .lt [.int i, .int j] = some (.val (.bl (decide (i < j)))) := rfl
@[simp] theorem o_le (i j : Int) : primD .le [.int i, .int j] = some (.val (.bl (decide (i ≤ j)))) := rfl
@[simp] theorem o_gt (i j : Int) : primD .gt [.int i, .int j] = some (.val (.bl (decide (j < i)))) := rfl
@[simp] theorem o_ge (i j : Int) : primD .ge [.int i, .int j] = some (.val (.bl (decide (j ≤ i)))) := rfl
@[simp] theorem o_abs (i : Int) : primD .abs [.int i] = some (.val (.int (if i < 0 then -i else i))) := rfl
@[simp] theorem o_int (i : Int) : primD .int [.int i] = some (.val (.int i)) := rfl
@[simp] theorem o_intb (b : Bool) : primD .int [.bl b] = some (.val (.int (if b = true then 1 else 0))) := rfl
@[simp] theorem o_lenT (xs : List D) : primD .len [.tup xs] = some (.val (.int xs.length)) := rfl
@[simp] theorem o_lenL (xs : List D) : primD .len [.lst xs] = some (.val (.int xs.length)) := rfl
@[simp] theorem o_lstT (xs : List D) : primD .lst [.tup xs] = some (.own xs) := rfl
@[simp] theorem o_lstL (xs : List D) : primD .lst [.lst xs] = some (.own xs) := rfl
@[simp] theorem o_tupT (xs : List D) : primD .tup [.tup xs] = some (.val (.tup xs)) := rfl
@[simp] theorem o_tupL (xs : List D) : primD .tup [.lst xs] = some (.val (.tup xs)) := rfl
@[simp] theorem o_ixT (xs : List D) (i : Int) : primD .ix [.tup xs, .int i] = (atI xs i).map .val := rfl
@[simp] theorem o_ixL (xs : List D) (i : Int) : primD .ix [.lst xs, .int i] = (atI xs i).map .val := rfl
@[simp] theorem o_mn (i j : Int) : primD .mn [.int i, .int j] = some (.val (.int (if j < i then j else i))) := rfl
@[simp] theorem o_mx (i j : Int) : primD .mx [.int i, .int j] = some (.val (.int (if i < j then j else i))) := rfl
@[simp] theorem o_iz (d : D) : primD .iz [d, .non] = some (.val (.bl (isNonD d))) := by cases d <;> rfl
@[simp] theorem o_izn (d : D) : primD .izn [d, .non] = some (.val (.bl (!isNonD d))) := by cases d <;> rfl
@[simp] theorem o_izb (a b : Bool) : primD .iz [.bl a, .bl b] = some (.val (.bl (decide (a = b)))) := rfl
@[simp] theorem o_iznb (a b : Bool) : primD .izn [.bl a, .bl b] = some (.val (.bl (!decide (a = b)))) := rfl
@[simp] theorem isNonD_non : isNonD .non = true := rfl
@[simp] theorem isNonD_int (i : Int) : isNonD (.int i) = false := rfl
@[simp] theorem isNonD_bl (i : Bool) : isNonD (.bl i) = false := rfl
@[simp] theorem isNonD_tup (i : List D) : isNonD (.tup i) = false := rfl
@[simp] theorem isNonD_lst (i : List D) : isNonD (.lst i) = false := rfl
@[simp] theorem isNonD_str (i : Str) : isNonD (.str i) = false := rfl
theorem On_ite {α : Type} {c : Prop} [Decidable c] {a : α} {Q : α → Prop} : On (if c then some a else none) Q ↔ c ∧ Q a := by
  by_cases h : c
  · rw [if_pos h]; exact ⟨fun q => ⟨h, q⟩, fun q => q.2⟩
  · rw [if_neg h]; exact ⟨fun q => q.elim, fun q => h q.1⟩
@[simp] theorem On_map {α β : Type} {o : Option α} {f : α → β} {Q : β → Prop} : On (o.map f) Q ↔ On o fun a => Q (f a) := by cases o <;> exact Iff.rfl
section
variable {Q : Sl → Prop}
@[simp] theorem o_mul (i j : Int) : On (primD .mul [.int i, .int j]) Q ↔ mulOk i j = true ∧ Q (.val (.int (i * j))) := On_ite
@[simp] theorem o_fdiv (i j : Int) : On (primD .fdiv [.int i, .int j]) Q ↔ (j ≠ 0 ∧ j.natAbs.log2 < 9000) ∧ Q (.val (.int (i.fdiv j))) := On_ite
@[simp] theorem o_mod (i j : Int) : On (primD .mod [.int i, .int j]) Q ↔ j ≠ 0 ∧ Q (.val (.int (i.fmod j))) := On_ite
@[simp] theorem o_pow (i j : Int) : On (primD .pow [.int i, .int j]) Q ↔ (0 ≤ j ∧ j ≤ 1000000 ∧ i.natAbs < 2 ^ 64) ∧ Q (.val (.int (i ^ j.toNat))) := On_ite
@[simp] theorem o_addT (xs ys : List D) : On (primD .add [.tup xs, .tup ys]) Q ↔ xs.length + ys.length ≤ 16777216 ∧ Q (.val (.tup (xs ++ ys))) := On_ite
@[simp] theorem o_addL (xs ys : List D) : On (primD .add [.lst xs, .lst ys]) Q ↔ xs.length + ys.length ≤ 16777216 ∧ Q (.own (xs ++ ys)) := On_ite
@[simp] theorem o_ist (T : Nat) (d : D) : On (primD (.ist T) [d]) Q ↔ T < 5 ∧ Q (.val (.bl (istD T d))) := On_ite
@[simp] theorem o_eq (d e : D) : On (primD .eq [d, e]) Q ↔ (okEq d && okEq e) = true ∧ Q (.val (.bl (eqD d e))) := On_ite
@[simp] theorem o_ne (d e : D) : On (primD .ne [d, e]) Q ↔ (okEq d && okEq e) = true ∧ Q (.val (.bl (!eqD d e))) := On_ite
end
@[simp] theorem okEq_int (i : Int) : okEq (.int i) = true := rfl
@[simp] theorem okEq_bl (i : Bool) : okEq (.bl i) = true := rfl
@[simp] theorem okEq_non : okEq .non = true := rfl
@[simp] theorem eqD_int (i j : Int) : eqD (.int i) (.int j) = decide (i = j) := by
  unfold eqD
  rw [toPy, toPy, PyData.eqv]
  by_cases h : i = j <;> simp [h]
@[simp] theorem eqD_bl (a b : Bool) : eqD (.bl a) (.bl b) = decide (a = b) := by
  unfold eqD
  rw [toPy, toPy, PyData.eqv]
  cases a <;> cases b <;> rfl
@[simp] theorem truth_bl (b : Bool) : truth (.bl b) = some b := rfl
@[simp] theorem truth_int (i : Int) : truth (.int i) = some (i != 0) := rfl
@[simp] theorem truth_non : truth .non = some false := rfl
@[simp] theorem truth_tup (ds : List D) : truth (.tup ds) = some !ds.isEmpty := rfl
@[simp] theorem truth_lst (ds : List D) : truth (.lst ds) = some !ds.isEmpty := rfl
theorem atI_nat' {α : Type} (xs : List α) (n : Nat) : atI xs (n : Int) = xs[n]? := by
  unfold atI ixN
  rw [if_pos (Int.natCast_nonneg n)]
  by_cases h : (n : Int) < xs.length
  · rw [if_pos h]; rfl
  · rw [if_neg h, List.getElem?_eq_none (by omega)]; rfl
@[simp] theorem atI_0 {α : Type} (x : α) (xs : List α) : atI (x :: xs) 0 = some x := atI_nat' (x :: xs) 0
@[simp] theorem atI_1 {α : Type} (x y : α) (xs : List α) : atI (x :: y :: xs) 1 = some y := atI_nat' (x :: y :: xs) 1
@[simp] theorem atI_2 {α : Type} (a b c : α) (xs : List α) : atI (a :: b :: c :: xs) 2 = some c := atI_nat' _ 2
@[simp] theorem atI_3 {α : Type} (a b c d : α) (xs : List α) : atI (a :: b :: c :: d :: xs) 3 = some d := atI_nat' _ 3
@[simp] theorem atI_4 {α : Type} (a b c d e : α) (xs : List α) : atI (a :: b :: c :: d :: e :: xs) 4 = some e := atI_nat' _ 4
@[simp] theorem atI_5 {α : Type} (a b c d e f : α) (xs : List α) : atI (a :: b :: c :: d :: e :: f :: xs) 5 = some f := atI_nat' _ 5
theorem ixN_lit {n : Nat} {k : Nat} (h : k < n) : ixN n (k : Int) = some k := by
  unfold ixN
  rw [if_pos (Int.natCast_nonneg k), if_pos (by omega)]; rfl
@[simp] theorem ixN_0 (n : Nat) : ixN (n + 1) 0 = some 0 := ixN_lit (k := 0) (by omega)
@[simp] theorem ixN_1 (n : Nat) : ixN (n + 1 + 1) 1 = some 1 := ixN_lit (k := 1) (by omega)
@[simp] theorem ixN_2 (n : Nat) : ixN (n + 1 + 1 + 1) 2 = some 2 := ixN_lit (k := 2) (by omega)
@[simp] theorem ixN_3 (n : Nat) : ixN (n + 1 + 1 + 1 + 1) 3 = some 3 := ixN_lit (k := 3) (by omega)
@[simp] theorem ixN_4 (n : Nat) : ixN (n + 1 + 1 + 1 + 1 + 1) 4 = some 4 := ixN_lit (k := 4) (by omega)
@[simp] theorem ixN_5 (n : Nat) : ixN (n + 1 + 1 + 1 + 1 + 1 + 1) 5 = some 5 := ixN_lit (k := 5) (by omega)
@[simp] theorem augD_add (i j : Int) : augD .add (.int i) (.int j) = some (i + j) := rfl
@[simp] theorem augD_sub (i j : Int) : augD .sub (.int i) (.int j) = some (i - j) := rfl
section
variable {l : Loc} {d : D} {ds : List D} {s : Sl} {i : Nat}
@[simp] theorem res_dat : res l (.dat d) = some d := rfl
@[simp] theorem res_v : res (.val d :: l) (.pos 0) = some d := rfl
@[simp] theorem res_o : res (.own ds :: l) (.pos 0) = some (.lst ds) := rfl
@[simp] theorem res_s : res (s :: l) (.pos (i + 1)) = res l (.pos i) := rfl
@[simp] theorem resL_nil : resL l [] = some [] := rfl
@[simp] theorem resL_cons {a : A} {as : List A} {Q : List D → Prop} : On (resL l (a :: as)) Q ↔ On (res l a) fun d => On (resL l as) fun ds => Q (d :: ds) := by
  rw [resL]
  cases res l a with
  | none => exact Iff.rfl
  | some d => cases resL l as <;> exact Iff.rfl
@[simp] theorem ownAt_o : ownAt (.own ds :: l) 0 = some ds := rfl
@[simp] theorem ownAt_s : ownAt (s :: l) (i + 1) = ownAt l i := rfl
@[simp] theorem setAll_nil : setAll l [] [] = some l := rfl
@[simp] theorem setAll_cons {is : List Nat} {Q : Loc → Prop} : On (setAll l (i :: is) (d :: ds)) Q ↔ i < l.length ∧ On (setAll (l.set i (.val d)) is ds) Q := by
  rw [setAll]
  by_cases h : i < l.length
  · rw [if_pos h]; exact ⟨fun q => ⟨h, q⟩, fun q => q.2⟩
  · rw [if_neg h]; exact ⟨fun q => q.elim, fun q => h q.1⟩
@[simp] theorem bind_name {Q : Loc → Prop} : On (bindT (.name i) d l) Q ↔ i < l.length ∧ Q (l.set i (.val d)) := by
  rw [bindT]
  by_cases h : i < l.length
  · rw [if_pos h]; exact ⟨fun q => ⟨h, q⟩, fun q => q.2⟩
  · rw [if_neg h]; exact ⟨fun q => q.elim, fun q => h q.1⟩
@[simp] theorem bind_tup {ts : List Tg} : bindT (.tup ts) (.tup ds) l = bindT.bindTs ts ds l := by rw [bindT]
@[simp] theorem bind_nil : bindT.bindTs [] [] l = some l := by rw [bindT.bindTs]
@[simp] theorem bind_cons {t : Tg} {ts : List Tg} {Q : Loc → Prop} : On (bindT.bindTs (t :: ts) (d :: ds) l) Q ↔ On (bindT t d l) fun l1 => On (bindT.bindTs ts ds l1) Q := by
  rw [bindT.bindTs]
  cases bindT t d l <;> exact Iff.rfl
end
section
variable {l : Loc} {as : List A} {pm : List Nat} {s : Sl} {d : D} {ds : List D} {outs r : List Sl} {rf : Option Nat} {i j k : Nat}
def aftN (l : Loc) (as : List A) (pm : List Nat) (s : Sl) : Loc := if (peeks l none as 0 pm).isEmpty || nolst s.d then l else demotes l (peeks l none as 0 pm)
@[simp] theorem after_none : after l none as pm s outs = some (aftN l as pm s) := rfl
@[simp] theorem aftN_val : aftN l as pm (.val d) = if (peeks l none as 0 pm).isEmpty || nolst d then l else demotes l (peeks l none as 0 pm) := rfl
@[simp] theorem aftN_own : aftN l as pm (.own ds) = if (peeks l none as 0 pm).isEmpty || nolst (.lst ds) then l else demotes l (peeks l none as 0 pm) := rfl
def aftS (l : Loc) (as : List A) (pm : List Nat) (s : Sl) (j : Nat) (ds : List D) : Option Loc := match refAt (some j) as pm with
  | some i => if (peeks l (some j) as 0 pm).contains i then none else
      some (if (peeks l (some j) as 0 pm).isEmpty || (nolst s.d && nolstL ds) then l.set i (.own ds) else demotes (l.set i (.own ds)) (peeks l (some j) as 0 pm))
  | none => none
theorem after_own (h : outs[j]? = some (.own ds)) : after l (some j) as pm s outs = aftS l as pm s j ds := by
  unfold after aftS
  cases e : refAt (some j) as pm with
  | none => rfl
  | some i => dsimp only; rw [h]
@[simp] theorem after_0 : after l (some 0) as pm s (.own ds :: r) = aftS l as pm s 0 ds := after_own rfl
@[simp] theorem after_1 : after l (some 1) as pm s (.un :: .own ds :: r) = aftS l as pm s 1 ds := after_own rfl
@[simp] theorem after_2 : after l (some 2) as pm s (.un :: .un :: .own ds :: r) = aftS l as pm s 2 ds := after_own rfl
@[simp] theorem argOf_dat : argOf l false (.dat d) = some (.val d) := rfl
@[simp] theorem argOf_v : argOf (.val d :: l) false (.pos 0) = some (.val d) := rfl
@[simp] theorem argOf_o : argOf (.own ds :: l) false (.pos 0) = some (.val (.lst ds)) := rfl
@[simp] theorem argOf_oo : argOf (.own ds :: l) true (.pos 0) = some (.own ds) := rfl
@[simp] theorem argOf_s {b : Bool} : argOf (s :: l) b (.pos (i + 1)) = argOf l b (.pos i) := rfl
@[simp] theorem argsOf_nil : argsOf l rf as j [] = some [] := rfl
@[simp] theorem argsOf_cons {Q : List Sl → Prop} : On (argsOf l rf as j (k :: pm)) Q ↔ On as[k]? fun a => On (argOf l (rf == some j) a) fun s => On (argsOf l rf as (j + 1) pm) fun r => Q (s :: r) := by
  rw [argsOf]
  cases as[k]? with
  | none => exact Iff.rfl
  | some a =>
    cases e : argsOf l rf as (j + 1) pm with
    | none =>
      dsimp only [On]
      cases argOf l (rf == some j) a <;> exact Iff.rfl
    | some r => dsimp only [On]; cases argOf l (rf == some j) a <;> exact Iff.rfl
@[simp] theorem peeks_nil : peeks l rf as j [] = [] := rfl
def peek1 (l : Loc) (own : Bool) : A → List Nat
  | .dat _ => []
  | .pos i => if own then [] else (match l[i]? with | some (.own _) => [i] | _ => [])
@[simp] theorem peek1_dat {b : Bool} : peek1 l b (.dat d) = [] := rfl
@[simp] theorem peek1_true : peek1 l true (.pos i) = [] := rfl
@[simp] theorem peek1_false : peek1 l false (.pos i) = match l[i]? with | some (.own _) => [i] | _ => [] := rfl
@[simp] theorem peeks_cons : peeks l rf as j (k :: pm) = (match as[k]? with | some a => peek1 l (rf == some j) a | none => []) ++ peeks l rf as (j + 1) pm := by
  rw [peeks]
  cases as[k]? with
  | none => rfl
  | some a => cases a <;> rfl
end
section
variable {l : Loc} {np i j : Nat} {as : List A} {pm is : List Nat} {s : Sl} {ds xs : List D} {d : D} {a b : Int}
@[simp] theorem outsOf_none : outsOf l np none = some (List.replicate np .un) := rfl
@[simp] theorem outsOf_some : outsOf l np (some j) = match l[j]? with
    | some (.own ds) => some ((List.replicate np Sl.un).set j (.own ds))
    | _ => none := rfl
@[simp] theorem refAt_none : refAt none as pm = none := rfl
@[simp] theorem refAt_some : refAt (some j) as pm = match pm[j]? with
    | some k => (match as[k]? with | some (.pos i) => some i | _ => none)
    | none => none := rfl
@[simp] theorem demotes_nil : demotes l [] = l := rfl
@[simp] theorem demotes_cons : demotes l (i :: is) = demotes (demote l i) is := rfl
@[simp] theorem demote_eq : demote l i = match l[i]? with
    | some (.own ds) => l.set i (.val (.lst ds))
    | _ => l := rfl
@[simp] theorem nolst_non : nolst .non = true := rfl
@[simp] theorem nolst_bl {b : Bool} : nolst (.bl b) = true := rfl
@[simp] theorem nolst_int : nolst (.int a) = true := rfl
@[simp] theorem nolst_str {x : Str} : nolst (.str x) = true := rfl
@[simp] theorem nolst_tup : nolst (.tup ds) = nolstL ds := by rw [nolst]
@[simp] theorem nolst_lst : nolst (.lst ds) = false := rfl
@[simp] theorem nolstL_nil : nolstL [] = true := rfl
@[simp] theorem nolstL_cons : nolstL (d :: ds) = (nolst d && nolstL ds) := by rw [nolstL]
@[simp] theorem aftS_eq : aftS l as pm s j ds = match refAt (some j) as pm with
    | some i => if (peeks l (some j) as 0 pm).contains i then none else
      some (if (peeks l (some j) as 0 pm).isEmpty || (nolst s.d && nolstL ds) then l.set i (.own ds) else demotes (l.set i (.own ds)) (peeks l (some j) as 0 pm))
    | none => none := rfl
@[simp] theorem partsD_ff : partsD false false [] = some (none, none) := rfl
@[simp] theorem partsD_tf : partsD true false [a] = some (some a, none) := rfl
@[simp] theorem partsD_ft : partsD false true [b] = some (none, some b) := rfl
@[simp] theorem partsD_tt : partsD true true [a, b] = some (some a, some b) := rfl
@[simp] theorem slD_t {p : Option Int × Option Int} : slD (.tup xs) p = some (.val (.tup (cutD xs p.1 p.2))) := rfl
@[simp] theorem slD_l {p : Option Int × Option Int} : slD (.lst xs) p = some (.own (cutD xs p.1 p.2)) := rfl
end
@[simp] theorem items_l (xs : List D) : items 0 [.lst xs] = some xs := rfl
@[simp] theorem items_t (xs : List D) : items 0 [.tup xs] = some xs := rfl
@[simp] theorem items_1 (n : Int) {Q : List D → Prop} : On (items 1 [.int n]) Q ↔ rgOk 0 n = true ∧ Q (rgD 0 n) := On_ite
@[simp] theorem items_2 (a b : Int) {Q : List D → Prop} : On (items 2 [.int a, .int b]) Q ↔ rgOk a b = true ∧ Q (rgD a b) := On_ite
theorem cutD_to (xs : List D) (k : Nat) : cutD xs none (some (k : Int)) = xs.take k := by
  unfold cutD
  rw [HT.sIx_nat, HT.sIx_none, List.drop_zero, Nat.sub_zero, ← List.take_take, List.take_length]
theorem cutD_from (xs : List D) (k : Nat) : cutD xs (some (k : Int)) none = xs.drop k := by
  unfold cutD
  rw [HT.sIx_nat, HT.sIx_none]
  have : (xs.drop (min k xs.length)).length = xs.length - min k xs.length := List.length_drop ..
  rw [List.take_of_length_le (by omega)]
  rcases Nat.le_total k xs.length with h | h
  · rw [Nat.min_eq_left h]
  · rw [Nat.min_eq_right h, List.drop_length, List.drop_of_length_le h]
theorem rgOk_ok {a b : Int} (h1 : -1000000000000 ≤ a) (h2 : b ≤ 1000000000000) (h3 : a ≤ b) (h4 : b - a ≤ 16777216) : rgOk a b = true := by
  unfold rgOk
  rw [decide_eq_true_eq]
  omega
theorem rgD_get {a b : Int} {i : Nat} {d : D} (h : (rgD a b)[i]? = some d) : d = .int (a + (i : Nat)) ∧ a + (i : Nat) < b := by
  unfold rgD at h
  rw [List.getElem?_map, Option.map_eq_some_iff] at h
  obtain ⟨j, h1, rfl⟩ := h
  obtain ⟨hi, e⟩ := List.getElem?_eq_some_iff.mp h1
  rw [List.getElem_range] at e
  rw [List.length_range] at hi
  subst e
  exact ⟨rfl, by omega⟩
theorem rgD_length (a b : Int) : (rgD a b).length = (b - a).toNat := by unfold rgD; rw [List.length_map, List.length_range]
theorem mulOk_r {i j : Int} (h1 : -18446744073709551616 < j) (h2 : j < 18446744073709551616) : mulOk i j = true := by
  unfold mulOk
  simp only [Bool.or_eq_true, decide_eq_true_eq]
  exact .inl (.inr ⟨h1, h2⟩)
theorem mulOk_l {i j : Int} (h1 : -18446744073709551616 < i) (h2 : i < 18446744073709551616) : mulOk i j = true := by
  unfold mulOk
  simp only [Bool.or_eq_true, decide_eq_true_eq]
  exact .inl (.inl ⟨h1, h2⟩)
theorem mulOk_w {i j : Int} {m n : Nat} (h1 : i.natAbs < 2 ^ m) (h2 : j.natAbs < 2 ^ n) (h : m + n ≤ 1000000) : mulOk i j = true := by
  unfold mulOk
  simp only [Bool.or_eq_true, decide_eq_true_eq]
  have lg : ∀ (x : Nat) (k : Nat), x < 2 ^ k → x.log2 < k + 1 ∧ (x.log2 = 0 ∨ x.log2 < k) := fun x k hx => by
    rcases Nat.eq_zero_or_pos x with z | z
    · subst z; rw [Nat.log2_zero]; exact ⟨by omega, .inl rfl⟩
    · have := (Nat.log2_lt (by omega)).mpr hx
      exact ⟨by omega, .inr this⟩
  have a1 := lg _ _ h1
  have a2 := lg _ _ h2
  refine .inr ?_
  omega
theorem fmod_pos (a m : Int) (h : 0 < m) : 0 ≤ a.fmod m ∧ a.fmod m < m := by
  rw [Int.fmod_eq_emod_of_nonneg _ (Int.le_of_lt h)]
  exact ⟨Int.emod_nonneg _ (by omega), Int.emod_lt_of_pos _ h⟩
theorem log_small {m : Int} (h : m.natAbs < 2 ^ 64) : m.natAbs.log2 < 9000 := by
  rcases Nat.eq_zero_or_pos m.natAbs with z | z
  · rw [z, Nat.log2_zero]; decide
  · exact Nat.lt_trans ((Nat.log2_lt (by omega)).mpr h) (by decide)
theorem log_lt {m : Int} {k : Nat} (hk : k ≤ 9000) (h : m.natAbs < 2 ^ k) : m.natAbs.log2 < 9000 := by
  rcases Nat.eq_zero_or_pos m.natAbs with z | z
  · rw [z, Nat.log2_zero]; decide
  · exact Nat.lt_of_lt_of_le ((Nat.log2_lt (by omega)).mpr h) hk
end DL

set_option Elab.async false
set_option linter.all false
set_option maxRecDepth 100000
set_option maxHeartbeats 4000000
/-! ## fractions -/
namespace FR
def nT (t b : Int) : Int := (if 0 < b then t else -t) / (Int.gcd t b : Int)
def nB (t b : Int) : Int := (if 0 < b then b else -b) / (Int.gcd t b : Int)
theorem gcd_pos {t b : Int} (hb : b ≠ 0) : 0 < (Int.gcd t b : Int) := by
  have : 0 < Int.gcd t b := Int.gcd_pos_of_ne_zero_right _ hb
  exact_mod_cast this
theorem nB_pos {t b : Int} (hb : b ≠ 0) : 0 < nB t b := by
  unfold nB
  have g := gcd_pos (t := t) hb
  have d : (Int.gcd t b : Int) ∣ (if 0 < b then b else -b) := by
    split
    · exact Int.gcd_dvd_right _ _
    · exact Int.dvd_neg.mpr (Int.gcd_dvd_right _ _)
  obtain ⟨c, hc⟩ := d
  rw [hc, Int.mul_ediv_cancel_left _ (by omega)]
  have p : 0 < (if 0 < b then b else -b) := by split <;> omega
  rw [hc] at p
  exact Int.pos_of_mul_pos_right p g |> fun h => h
theorem cross (t b : Int) : nT t b * b = t * nB t b := by
  unfold nT nB
  by_cases hb : b = 0
  · subst hb; simp
  have g := gcd_pos (t := t) hb
  obtain ⟨c, hc⟩ := Int.gcd_dvd_left t b
  obtain ⟨d, hd⟩ := Int.gcd_dvd_right t b
  generalize (Int.gcd t b : Int) = G at *
  split
  · rw [hc, hd, Int.mul_ediv_cancel_left _ (by omega), Int.mul_ediv_cancel_left _ (by omega)]
    simp only [Int.mul_assoc, Int.mul_comm, Int.mul_left_comm]
  · rw [hc, hd, ← Int.mul_neg, ← Int.mul_neg, Int.mul_ediv_cancel_left _ (by omega), Int.mul_ediv_cancel_left _ (by omega)]
    simp only [Int.mul_assoc, Int.mul_comm, Int.mul_left_comm, Int.neg_mul, Int.mul_neg]
theorem cop {t b : Int} (hb : b ≠ 0) : Int.gcd (nT t b) (nB t b) = 1 := by
  unfold nT nB
  have h := Int.gcd_ediv_gcd_ediv_gcd (i := t) (j := b) (Int.gcd_pos_of_ne_zero_right _ hb)
  split
  · exact h
  · rw [Int.neg_ediv_of_dvd (Int.gcd_dvd_left _ _), Int.neg_ediv_of_dvd (Int.gcd_dvd_right _ _), Int.neg_gcd, Int.gcd_neg]
    exact h
theorem uniq {p q p' q' : Int} (hq : 0 < q) (hq' : 0 < q') (c : Int.gcd p q = 1) (c' : Int.gcd p' q' = 1) (h : p * q' = p' * q) : p = p' ∧ q = q' := by
  have e1 : q.natAbs ∣ q'.natAbs := by
    have : q.natAbs ∣ q'.natAbs * p.natAbs := by
      rw [← Int.natAbs_mul, Int.mul_comm, h]
      exact Int.natAbs_dvd_natAbs.mpr (Int.dvd_mul_left _ _)
    refine Nat.Coprime.dvd_of_dvd_mul_right ?_ this
    unfold Nat.Coprime
    rw [Nat.gcd_comm, ← Int.gcd_eq_natAbs_gcd_natAbs]; exact c
  have e2 : q'.natAbs ∣ q.natAbs := by
    have : q'.natAbs ∣ q.natAbs * p'.natAbs := by
      rw [← Int.natAbs_mul, Int.mul_comm, ← h]
      exact Int.natAbs_dvd_natAbs.mpr (Int.dvd_mul_left _ _)
    refine Nat.Coprime.dvd_of_dvd_mul_right ?_ this
    unfold Nat.Coprime
    rw [Nat.gcd_comm, ← Int.gcd_eq_natAbs_gcd_natAbs]; exact c'
  have e : q.natAbs = q'.natAbs := Nat.dvd_antisymm e1 e2
  have e3 : q = q' := by omega
  subst e3
  exact ⟨Int.eq_of_mul_eq_mul_right (by omega) h, rfl⟩
theorem natAbs_sg (t b : Int) : (if 0 < b then t else -t).natAbs = t.natAbs := by split <;> simp
theorem nT_le (t b : Int) : (nT t b).natAbs ≤ t.natAbs := by
  unfold nT
  refine Nat.le_trans (Int.natAbs_ediv_le_natAbs _ _) ?_
  rw [natAbs_sg]; exact Nat.le_refl _
theorem nB_le (t b : Int) : (nB t b).natAbs ≤ b.natAbs := by
  unfold nB
  refine Nat.le_trans (Int.natAbs_ediv_le_natAbs _ _) ?_
  rw [natAbs_sg]; exact Nat.le_refl _
/-- what is whole in a fraction's own terms stays -/
theorem own {p q : Int} (hq : 0 < q) (c : Int.gcd p q = 1) {t b : Int} (hb : b ≠ 0) (h : p * b = t * q) : nT t b = p ∧ nB t b = q := by
  have h1 := cross t b
  refine uniq (nB_pos hb) hq (cop hb) c ?_
  -- nT * q = p * nB
  have : (nT t b * q) * b = (p * nB t b) * b := by
    calc (nT t b * q) * b = (nT t b * b) * q := by rw [Int.mul_right_comm]
      _ = (t * nB t b) * q := by rw [h1]
      _ = (t * q) * nB t b := by rw [Int.mul_right_comm]
      _ = (p * b) * nB t b := by rw [h]
      _ = (p * nB t b) * b := by rw [Int.mul_right_comm]
  exact Int.eq_of_mul_eq_mul_right hb this
theorem same {t b t' b' : Int} (hb : b ≠ 0) (hb' : b' ≠ 0) (h : t * b' = t' * b) : nT t b = nT t' b' ∧ nB t b = nB t' b' := by
  have g := own (nB_pos (t := t') hb') (cop hb') hb (p := nT t' b') (t := t) (b := b) ?_
  · exact g
  · have h1 := cross t' b'
    have : (nT t' b' * b) * b' = (t * nB t' b') * b' := by
      calc (nT t' b' * b) * b' = (nT t' b' * b') * b := by rw [Int.mul_right_comm]
        _ = (t' * nB t' b') * b := by rw [h1]
        _ = (t' * b) * nB t' b' := by rw [Int.mul_right_comm]
        _ = (t * b') * nB t' b' := by rw [h]
        _ = (t * nB t' b') * b' := by rw [Int.mul_right_comm]
    exact Int.eq_of_mul_eq_mul_right hb' this
theorem fdiv_g {t b : Int} : t.fdiv (Int.gcd t b : Int) = t / (Int.gcd t b : Int) := Int.fdiv_eq_ediv_of_dvd (Int.gcd_dvd_left _ _)
theorem euclid {h l : Nat} (hl : l ≤ h) : 2 * (l * (h % l)) ≤ h * l := by
  rcases Nat.eq_zero_or_pos l with h0 | h0
  · subst h0; simp
  · have h1 := Nat.mod_lt h h0
    have h2 : l * 1 ≤ l * (h / l) := Nat.mul_le_mul_left _ (Nat.div_pos hl h0)
    have h3 := Nat.div_add_mod h l
    have h4 : 2 * (h % l) ≤ h := by omega
    calc 2 * (l * (h % l)) = l * (2 * (h % l)) := by rw [← Nat.mul_assoc, ← Nat.mul_assoc, Nat.mul_comm 2 l]
      _ ≤ l * h := Nat.mul_le_mul_left _ h4
      _ = h * l := Nat.mul_comm _ _
/-- how far Euclid's turns still go -/
def Far (m h l : Nat) : Prop := (l ≤ h ∧ h * l < 2 ^ m) ∨ (0 < m ∧ h * l < 2 ^ (m - 1))
theorem Far.next {m h l : Nat} (f : Far m h l) (h0 : 0 < l) : 0 < m ∧ Far (m - 1) l (h % l) := by
  have pos : ∀ k, 0 < 2 ^ k := fun k => Nat.pow_pos (by decide)
  have main : l ≤ h → h * l < 2 ^ m → 0 < m ∧ Far (m - 1) l (h % l) := fun hl hp => by
    have e := euclid hl
    have m0 : 0 < m := by
      rcases Nat.eq_zero_or_pos m with z | z
      · subst z
        have : 0 < h * l := Nat.mul_pos (by omega) h0
        simp at hp; omega
      · exact z
    refine ⟨m0, .inl ⟨Nat.le_of_lt (Nat.mod_lt _ h0), ?_⟩⟩
    have : 2 ^ m = 2 * 2 ^ (m - 1) := by rw [← Nat.pow_succ', Nat.succ_eq_add_one, Nat.sub_add_cancel m0]
    omega
  rcases f with ⟨hl, hp⟩ | ⟨m0, hp⟩
  · exact main hl hp
  · rcases Nat.lt_or_ge h l with hlt | hge
    · refine ⟨m0, .inl ⟨Nat.le_of_lt (Nat.mod_lt _ h0), ?_⟩⟩
      rw [Nat.mod_eq_of_lt hlt, Nat.mul_comm]; exact hp
    · refine main hge (Nat.lt_of_lt_of_le hp (Nat.pow_le_pow_right (by decide) (by omega)))
theorem far_of {N h l : Nat} (h1 : h < 2 ^ N) (h2 : l < 2 ^ N) : Far (2 * N + 1) h l := by
  refine .inr ⟨by omega, ?_⟩
  rw [show 2 * N + 1 - 1 = N + N by omega, Nat.pow_add]
  rcases Nat.eq_zero_or_pos l with z | z
  · subst z; simp; exact Nat.mul_pos (Nat.pow_pos (by decide)) (Nat.pow_pos (by decide))
  · exact Nat.mul_lt_mul_of_lt_of_le h1 (Nat.le_of_lt h2) (Nat.pow_pos (by decide))
end FR

set_option Elab.async false
set_option linter.all false
set_option maxRecDepth 100000
set_option maxHeartbeats 4000000
set_option exponentiation.threshold 20000
namespace DL
open PySem PySem.Spec PyProof.Rows L2

/-! ## common_divisor, fraction .. of the program -/
def fdGcd : FD := ⟨2, 4, none, [.set 2 (.prim .abs [.var 0]), .set 3 (.prim .abs [.var 1]), .whl (.var 3) [.par [2, 3] [.var 3, .prim .mod [.var 2, .var 3]]], .retv 2]⟩
def fdFraction (g : Nat) : FD := ⟨2, 3, none, [.set 2 (.call g none [0, 1] [.var 0, .var 1]), .ite (.prim .lt [.var 1, .cst (.int 0)]) [.set 2 (.prim .neg [.var 2])] [], .ret (.pack true [.prim .fdiv [.var 0, .var 2], .prim .fdiv [.var 1, .var 2]])]⟩
section
variable {P : Nat → Option FD} {n : Nat} {Q : Sl × List Sl → Prop}
theorem natAbs_if (i : Int) : (if i < 0 then -i else i) = (i.natAbs : Int) := by split <;> omega
theorem gcd_run {i : Nat} (h : P i = some fdGcd) {a b : Int} {N : Nat} (hN : N ≤ 8000000) (ha : a.natAbs < 2 ^ N) (hb : b.natAbs < 2 ^ N) (q : Q (.val (.int (Int.gcd a b : Int)), [.un, .un])) :
    Post (callF P (n + 1) i [.val (.int a), .val (.int b)]) Q := by
  rw [post_fn h]
  simp [fdGcd, natAbs_if]
  refine whileL_inv (fun m l => ∃ h lo : Nat, l = [.val (.int a), .val (.int b), .val (.int h), .val (.int lo)] ∧ Nat.gcd h lo = Int.gcd a b ∧ FR.Far m h lo) (m := 2 * N + 1) (by unfold whileFuel; omega) ⟨a.natAbs, b.natAbs, rfl, (Int.gcd_eq_natAbs_gcd_natAbs a b).symm, FR.far_of ha hb⟩ ?_
  rintro m l ⟨h, lo, rfl, hg, hf⟩
  simp
  (first | refine If.hh (fun h0 => ?_) (fun h0 => ?_) | refine If.ha (fun h0 => ?_) (fun h0 => ?_) | refine If.ah (fun h0 => ?_) (fun h0 => ?_) | refine If.aa (fun h0 => ?_) (fun h0 => ?_))
  rotate_left
  · have h0 : lo = 0 := by simpa using h0
    subst h0
    rw [Nat.gcd_zero_right] at hg
    rw [hg]; exact q
  · have h0 : lo ≠ 0 := by simpa using h0
    obtain ⟨m0, hf'⟩ := hf.next (Nat.pos_of_ne_zero h0)
    simp
    refine ⟨h0, m - 1, by omega, lo, h % lo, ⟨rfl, ?_⟩, ?_, hf'⟩
    · rw [Int.fmod_eq_emod_of_nonneg _ (Int.natCast_nonneg lo)]; rfl
    · rw [Nat.gcd_comm lo, ← Nat.gcd_rec, Nat.gcd_comm, hg]
theorem fraction_run {i g : Nat} (h : P i = some (fdFraction g)) (hg : P g = some fdGcd) {t b : Int} {N : Nat} (hN : N ≤ 8999) (ht : t.natAbs < 2 ^ N) (hb : b.natAbs < 2 ^ N) (b0 : b ≠ 0) (q : Q (.val (.tup [.int (FR.nT t b), .int (FR.nB t b)]), [.un, .un])) :
    Post (callF P (n + 2) i [.val (.int t), .val (.int b)]) Q := by
  rw [post_fn h]
  simp [fdFraction]
  refine gcd_run hg (by omega) ht hb ?_
  simp
  have gp := FR.gcd_pos (t := t) b0
  have gl : Nat.log2 (Int.gcd t b) < 9000 := by
    have le : Int.gcd t b ≤ b.natAbs := by
      rw [Int.gcd_eq_natAbs_gcd_natAbs]
      exact Nat.gcd_le_right _ (Nat.pos_of_ne_zero (by omega))
    have : Int.gcd t b < 2 ^ 9000 := Nat.lt_of_le_of_lt le (Nat.lt_of_lt_of_le hb (Nat.pow_le_pow_right (by decide) (by omega)))
    exact (Nat.log2_lt (by omega)).mpr this
  have g0 : (Int.gcd t b : Int) ≠ 0 := by omega
  (first | refine If.hh (fun hlt => ?_) (fun hlt => ?_) | refine If.ha (fun hlt => ?_) (fun hlt => ?_) | refine If.ah (fun hlt => ?_) (fun hlt => ?_) | refine If.aa (fun hlt => ?_) (fun hlt => ?_))
  · have hlt : b < 0 := by simpa using hlt
    simp [g0, gl]
    have e1 : ∀ x : Int, x.fdiv (-(Int.gcd t b : Int)) = (-x).fdiv (Int.gcd t b : Int) := fun x => by
      conv => lhs; rw [← Int.neg_neg x]
      rw [Int.neg_fdiv_neg]
    rw [e1, e1, Int.fdiv_eq_ediv_of_dvd (Int.dvd_neg.mpr (Int.gcd_dvd_left _ _)), Int.fdiv_eq_ediv_of_dvd (Int.dvd_neg.mpr (Int.gcd_dvd_right _ _))]
    have e2 : ¬ 0 < b := by omega
    unfold FR.nT FR.nB at q
    rw [if_neg e2, if_neg e2] at q
    exact ⟨fun _ => b0, q⟩
  · have hlt : ¬ b < 0 := by simpa using hlt
    simp [g0, gl]
    rw [Int.fdiv_eq_ediv_of_dvd (Int.gcd_dvd_left _ _), Int.fdiv_eq_ediv_of_dvd (Int.gcd_dvd_right _ _)]
    have e2 : 0 < b := by omega
    unfold FR.nT FR.nB at q
    rw [if_pos e2, if_pos e2] at q
    exact ⟨fun _ => b0, q⟩
end
end DL

set_option Elab.async false
set_option linter.all false
set_option maxRecDepth 100000
set_option maxHeartbeats 4000000
namespace K01
open PySem PySem.Spec PyProof.Rows L2
def topS (i : Nat) : Stmt := PySem.Challenge.pw_ringsigns_k01_fractions.main.body.getD i (.Pass ⟨0, 0, 0, 0⟩)
/-- common_divisor(one, other, high, low) -/
def b0 : List DL.S := [.set 2 (.prim .abs [.var 0]), .set 3 (.prim .abs [.var 1]), .whl (.var 3) [.par [2, 3] [.var 3, .prim .mod [.var 2, .var 3]]], .retv 2]
/-- fraction(top, bottom, divisor) -/
def b1 : List DL.S := [.set 2 (.call 0 none [0, 1] [.var 0, .var 1]), .ite (.prim .lt [.var 1, .cst (.int 0)]) [.set 2 (.prim .neg [.var 2])] [], .ret (.pack true [.prim .fdiv [.var 0, .var 2], .prim .fdiv [.var 1, .var 2]])]
/-- added(one, other) -/
def b2 : List DL.S := [.ret (.call 1 none [0, 1] [.prim .add [.prim .mul [.prim .ix [.var 0, .cst (.int 0)], .prim .ix [.var 1, .cst (.int 1)]], .prim .mul [.prim .ix [.var 1, .cst (.int 0)], .prim .ix [.var 0, .cst (.int 1)]]], .prim .mul [.prim .ix [.var 0, .cst (.int 1)], .prim .ix [.var 1, .cst (.int 1)]]])]
/-- taken(one, other) -/
def b3 : List DL.S := [.ret (.call 1 none [0, 1] [.prim .sub [.prim .mul [.prim .ix [.var 0, .cst (.int 0)], .prim .ix [.var 1, .cst (.int 1)]], .prim .mul [.prim .ix [.var 1, .cst (.int 0)], .prim .ix [.var 0, .cst (.int 1)]]], .prim .mul [.prim .ix [.var 0, .cst (.int 1)], .prim .ix [.var 1, .cst (.int 1)]]])]
/-- multiplied(one, other) -/
def b4 : List DL.S := [.ret (.call 1 none [0, 1] [.prim .mul [.prim .ix [.var 0, .cst (.int 0)], .prim .ix [.var 1, .cst (.int 0)]], .prim .mul [.prim .ix [.var 0, .cst (.int 1)], .prim .ix [.var 1, .cst (.int 1)]]])]
/-- divided(one, other) -/
def b5 : List DL.S := [.ret (.call 1 none [0, 1] [.prim .mul [.prim .ix [.var 0, .cst (.int 0)], .prim .ix [.var 1, .cst (.int 1)]], .prim .mul [.prim .ix [.var 0, .cst (.int 1)], .prim .ix [.var 1, .cst (.int 0)]]])]
/-- less(one, other) -/
def b6 : List DL.S := [.ret (.prim .lt [.prim .mul [.prim .ix [.var 0, .cst (.int 0)], .prim .ix [.var 1, .cst (.int 1)]], .prim .mul [.prim .ix [.var 1, .cst (.int 0)], .prim .ix [.var 0, .cst (.int 1)]]])]
/-- _law_mixed(number, k, first, second) -/
def b7 : List DL.S := [.set 2 (.prim .mod [.prim .int [.prim .add [.prim .add [.prim .mul [.var 0, .cst (.int 48271)], .prim .mul [.var 1, .cst (.int 69621)]], .cst (.int 97)]], .cst (.int 2147483647)]), .set 3 (.prim .mod [.prim .int [.prim .add [.prim .add [.prim .mul [.var 2, .prim .add [.prim .add [.var 2, .prim .mul [.cst (.int 2), .var 1]], .cst (.int 1)]], .prim .mul [.var 1, .cst (.int 16807)]], .cst (.int 31)]], .cst (.int 2147483629)]), .ret (.prim .mod [.prim .int [.prim .add [.prim .mul [.var 3, .cst (.int 40692)], .var 2]], .cst (.int 2147483587)])]
/-- _law_start(script, seed, cell) -/
def b8 : List DL.S := [.set 1 (.prim .len [.var 0]), .fer (.name 2) 0 [.slc (.var 0) false true [.cst (.int 63)]] [.set 1 (.call 7 none [0, 1] [.prim .add [.var 1, .var 2], .cst (.int 5)])], .ret (.pack false [.cst (.int 0), .cst (.int 0), .cst (.int 0), .var 1, .prim .lst [.slc (.var 0) false true [.cst (.int 63)]], .cst (.int 0)])]
/-- _law_take(state, limit, cells, value, cell) * -/
def b9 : List DL.S := [.set 2 (.prim .ix [.var 0, .cst (.int 4)]), .augix 0 (.cst (.int 2)) .add (.cst (.int 1)), .ite (.and (.prim .eq [.prim .ix [.var 0, .cst (.int 0)], .cst (.int 0)]) (.prim .lt [.prim .ix [.var 0, .cst (.int 1)], .prim .len [.var 2]])) [.set 4 (.prim .ix [.var 2, .prim .ix [.var 0, .cst (.int 1)]]), .augix 0 (.cst (.int 1)) .add (.cst (.int 1)), .ite (.prim .lt [.prim .abs [.var 4], .prim .pow [.cst (.int 10), .cst (.int 18)]]) [.ret (.prim .mod [.prim .int [.call 7 none [0, 1] [.var 4, .prim .ix [.var 0, .cst (.int 2)]]], .var 1])] [], .setix 0 (.cst (.int 0)) (.prim .abs [.var 4]), .setix 0 (.cst (.int 5)) (.cst (.int 60))] [], .ite (.prim .eq [.prim .ix [.var 0, .cst (.int 0)], .cst (.int 0)]) [.ret (.prim .mod [.prim .int [.call 7 none [0, 1] [.prim .ix [.var 0, .cst (.int 3)], .prim .ix [.var 0, .cst (.int 2)]]], .var 1])] [], .set 3 (.prim .mod [.prim .int [.prim .ix [.var 0, .cst (.int 0)]], .var 1]), .augix 0 (.cst (.int 5)) .sub (.cst (.int 1)), .setix 0 (.cst (.int 0)) (.prim .mul [.prim .fdiv [.prim .ix [.var 0, .cst (.int 0)], .var 1], .prim .int [.prim .gt [.prim .ix [.var 0, .cst (.int 5)], .cst (.int 0)]]]), .retv 3]
/-- _law_pick(state, some) * -/
def b10 : List DL.S := [.ret (.prim .ix [.var 1, .call 9 (some 0) [0, 1] [.var 0, .prim .len [.var 1]]])]
/-- _law_same(told, due, k) -/
def b11 : List DL.S := [.ite (.prim .iz [.var 1, .cst .non]) [.ret (.prim .iz [.var 0, .cst .non])] [], .ite (.prim (.ist 1) [.var 1]) [.ret (.and (.prim (.ist 1) [.var 0]) (.prim .eq [.var 0, .var 1]))] [], .ite (.prim (.ist 0) [.var 1]) [.ret (.and (.prim (.ist 0) [.var 0]) (.and (.not (.prim (.ist 1) [.var 0])) (.prim .eq [.var 0, .var 1])))] [], .ite (.prim (.ist 2) [.var 1]) [.ret (.and (.prim (.ist 2) [.var 0]) (.prim .eq [.var 0, .var 1]))] [], .ite (.or (.not (.prim (.ist 3) [.var 0])) (.prim .ne [.prim .len [.var 0], .prim .len [.var 1]])) [.ret (.cst (.bl false))] [], .fer (.name 2) 1 [.prim .len [.var 1]] [.ite (.not (.call 11 none [0, 1] [.prim .ix [.var 0, .var 2], .prim .ix [.var 1, .var 2]])) [.ret (.cst (.bl false))] []], .ret (.cst (.bl true))]
/-- _law_is_due(told, due) -/
def b12 : List DL.S := [.ret (.ite (.var 1) (.prim .iz [.var 0, .cst (.bl true)]) (.prim .iz [.var 0, .cst (.bl false)]))]
/-- _law_divisor(one, other, turn) -/
def b13 : List DL.S := [.fer (.name 2) 1 [.cst (.int 100000)] [.ite (.prim .eq [.var 1, .cst (.int 0)]) [.brk] [], .par [0, 1] [.var 1, .prim .mod [.prim .int [.var 0], .var 1]]], .retv 0]
/-- _law_fraction(top, below, shared) -/
def b14 : List DL.S := [.asg (.tup [.name 0, .name 1]) (.ite (.prim .gt [.var 1, .cst (.int 0)]) (.pack true [.var 0, .var 1]) (.pack true [.prim .neg [.var 0], .prim .neg [.var 1]])), .set 2 (.call 13 none [0, 1] [.prim .abs [.var 0], .var 1]), .ret (.pack true [.prim .fdiv [.var 0, .var 2], .prim .fdiv [.var 1, .var 2]])]
/-- _law_sum(one, other) -/
def b15 : List DL.S := [.ret (.call 14 none [0, 1] [.prim .add [.prim .mul [.prim .ix [.var 0, .cst (.int 0)], .prim .ix [.var 1, .cst (.int 1)]], .prim .mul [.prim .ix [.var 1, .cst (.int 0)], .prim .ix [.var 0, .cst (.int 1)]]], .prim .mul [.prim .ix [.var 0, .cst (.int 1)], .prim .ix [.var 1, .cst (.int 1)]]])]
/-- _law_gap(one, other) -/
def b16 : List DL.S := [.ret (.call 14 none [0, 1] [.prim .sub [.prim .mul [.prim .ix [.var 0, .cst (.int 0)], .prim .ix [.var 1, .cst (.int 1)]], .prim .mul [.prim .ix [.var 1, .cst (.int 0)], .prim .ix [.var 0, .cst (.int 1)]]], .prim .mul [.prim .ix [.var 0, .cst (.int 1)], .prim .ix [.var 1, .cst (.int 1)]]])]
/-- _law_product(one, other) -/
def b17 : List DL.S := [.ret (.call 14 none [0, 1] [.prim .mul [.prim .ix [.var 0, .cst (.int 0)], .prim .ix [.var 1, .cst (.int 0)]], .prim .mul [.prim .ix [.var 0, .cst (.int 1)], .prim .ix [.var 1, .cst (.int 1)]]])]
/-- _law_over(one, other) -/
def b18 : List DL.S := [.ret (.call 14 none [0, 1] [.prim .mul [.prim .ix [.var 0, .cst (.int 0)], .prim .ix [.var 1, .cst (.int 1)]], .prim .mul [.prim .ix [.var 0, .cst (.int 1)], .prim .ix [.var 1, .cst (.int 0)]]])]
/-- _law_less(one, other) -/
def b19 : List DL.S := [.ret (.prim .lt [.prim .mul [.prim .ix [.var 0, .cst (.int 0)], .prim .ix [.var 1, .cst (.int 1)]], .prim .mul [.prim .ix [.var 1, .cst (.int 0)], .prim .ix [.var 0, .cst (.int 1)]]])]
/-- _law_number(state, top) * -/
def b20 : List DL.S := [.set 1 (.call 10 (some 0) [0, 1] [.var 0, .pack false [.prim .sub [.call 9 (some 0) [0, 1] [.var 0, .cst (.int 13)], .cst (.int 6)], .prim .sub [.call 9 (some 0) [0, 1] [.var 0, .cst (.int 2000001)], .cst (.int 1000000)], .cst (.int 1000000), .prim .neg [.cst (.int 1000000)], .cst (.int 0)]]), .ret (.call 14 none [0, 1] [.var 1, .call 10 (some 0) [0, 1] [.var 0, .pack false [.cst (.int 1), .prim .add [.cst (.int 1), .call 9 (some 0) [0, 1] [.var 0, .cst (.int 12)]], .cst (.int 10000), .prim .add [.cst (.int 1), .call 9 (some 0) [0, 1] [.var 0, .cst (.int 10000)]]]]])]
/-- _law_wholes_are_told(state, turn, shared, top, below, due) * -/
def b21 : List DL.S := [.fer (.name 1) 1 [.cst (.int 10)] [.set 2 (.call 10 (some 0) [0, 1] [.var 0, .pack false [.cst (.int 1), .cst (.int 2), .cst (.int 12), .cst (.int 35)]]), .set 3 (.prim .mul [.var 2, .call 10 (some 0) [0, 1] [.var 0, .pack false [.cst (.int 0), .cst (.int 1), .prim .neg [.cst (.int 1)], .prim .sub [.call 9 (some 0) [0, 1] [.var 0, .cst (.int 200)], .cst (.int 100)], .prim .sub [.call 9 (some 0) [0, 1] [.var 0, .cst (.int 20000)], .cst (.int 10000)]]]]), .set 4 (.prim .mul [.var 2, .call 10 (some 0) [0, 1] [.var 0, .pack false [.cst (.int 1), .prim .neg [.cst (.int 1)], .cst (.int 2), .prim .neg [.cst (.int 6)], .prim .add [.cst (.int 1), .call 9 (some 0) [0, 1] [.var 0, .cst (.int 200)]], .prim .sub [.prim .neg [.cst (.int 1)], .call 9 (some 0) [0, 1] [.var 0, .cst (.int 200)]]]]]), .set 5 (.call 14 none [0, 1] [.var 3, .var 4]), .ite (.or (.not (.call 11 none [0, 1] [.call 1 none [0, 1] [.var 3, .var 4], .var 5])) (.not (.call 11 none [0, 1] [.call 1 none [1, 0] [.var 4, .var 3], .var 5]))) [.ret (.cst (.bl false))] []], .ret (.cst (.bl true))]
/-- _law_pair_is_told(one, other) -/
def b22 : List DL.S := [.ite (.or (.not (.call 11 none [0, 1] [.call 2 none [0, 1] [.var 0, .var 1], .call 15 none [0, 1] [.var 0, .var 1]])) (.not (.call 11 none [0, 1] [.call 2 none [1, 0] [.var 1, .var 0], .call 15 none [0, 1] [.var 0, .var 1]]))) [.ret (.cst (.bl false))] [], .ite (.or (.not (.call 11 none [0, 1] [.call 3 none [0, 1] [.var 0, .var 1], .call 16 none [0, 1] [.var 0, .var 1]])) (.not (.call 11 none [0, 1] [.call 3 none [1, 0] [.var 1, .var 0], .call 16 none [0, 1] [.var 0, .var 1]]))) [.ret (.cst (.bl false))] [], .ite (.or (.not (.call 11 none [0, 1] [.call 4 none [0, 1] [.var 0, .var 1], .call 17 none [0, 1] [.var 0, .var 1]])) (.not (.call 11 none [0, 1] [.call 4 none [1, 0] [.var 1, .var 0], .call 17 none [0, 1] [.var 0, .var 1]]))) [.ret (.cst (.bl false))] [], .ite (.or (.not (.call 12 none [0, 1] [.call 6 none [0, 1] [.var 0, .var 1], .call 19 none [0, 1] [.var 0, .var 1]])) (.not (.call 12 none [0, 1] [.call 6 none [1, 0] [.var 1, .var 0], .call 19 none [0, 1] [.var 0, .var 1]]))) [.ret (.cst (.bl false))] [], .ite (.or (.not (.call 11 none [0, 1] [.call 3 none [0, 1] [.call 2 none [0, 1] [.var 0, .var 1], .var 1], .var 0])) (.not (.call 12 none [0, 1] [.call 6 none [0, 1] [.var 0, .var 0], .cst (.bl false)]))) [.ret (.cst (.bl false))] [], .ite (.prim .eq [.prim .ix [.var 1, .cst (.int 0)], .cst (.int 0)]) [.ret (.cst (.bl true))] [], .ite (.or (.not (.call 11 none [0, 1] [.call 5 none [0, 1] [.var 0, .var 1], .call 18 none [0, 1] [.var 0, .var 1]])) (.not (.call 11 none [0, 1] [.call 5 none [1, 0] [.var 1, .var 0], .call 18 none [0, 1] [.var 0, .var 1]]))) [.ret (.cst (.bl false))] [], .ret (.call 11 none [0, 1] [.call 5 none [0, 1] [.call 4 none [0, 1] [.var 0, .var 1], .var 1], .var 0])]
/-- _law_are_long_told(long, due, more, top, below) -/
def b23 : List DL.S := [.par [3, 4] [.prim .add [.prim .mul [.prim .ix [.var 0, .cst (.int 0)], .prim .ix [.var 0, .cst (.int 1)]], .cst (.int 1)], .prim .add [.prim .ix [.var 0, .cst (.int 1)], .cst (.int 7)]], .set 1 (.call 14 none [0, 1] [.var 3, .var 4]), .ite (.or (.not (.call 11 none [0, 1] [.call 1 none [0, 1] [.var 3, .var 4], .var 1])) (.not (.call 11 none [0, 1] [.call 1 none [1, 0] [.prim .neg [.var 4], .var 3], .call 14 none [0, 1] [.prim .neg [.var 3], .var 4]]))) [.ret (.cst (.bl false))] [], .set 2 (.call 2 none [0, 1] [.var 1, .call 1 none [0, 1] [.cst (.int 1), .var 4]]), .ite (.not (.call 11 none [0, 1] [.var 2, .call 15 none [0, 1] [.var 1, .pack true [.cst (.int 1), .var 4]]])) [.ret (.cst (.bl false))] [], .ret (.and (.call 12 none [0, 1] [.call 6 none [0, 1] [.var 1, .var 2], .cst (.bl true)]) (.and (.call 12 none [0, 1] [.call 6 none [0, 1] [.var 2, .var 1], .cst (.bl false)]) (.call 12 none [0, 1] [.call 6 none [0, 1] [.var 1, .var 1], .cst (.bl false)])))]
/-- law(script, state, long, turn, near, one, other) -/
def b24 : List DL.S := [.set 1 (.call 8 none [0] [.var 0]), .ite (.not (.call 21 (some 0) [0] [.var 1])) [.ret (.cst (.bl false))] [], .set 2 (.pack true [.cst (.int 1), .cst (.int 1)]), .fer (.name 3) 1 [.cst (.int 8)] [.set 5 (.call 20 (some 0) [0] [.var 1]), .set 6 (.call 10 (some 0) [0, 1] [.var 1, .pack false [.call 20 (some 0) [0] [.var 1], .call 20 (some 0) [0] [.var 1], .var 5, .pack true [.prim .neg [.prim .ix [.var 5, .cst (.int 0)]], .prim .ix [.var 5, .cst (.int 1)]]]]), .ite (.or (.not (.call 22 none [0, 1] [.var 5, .var 6])) (.not (.call 22 none [0, 1] [.var 6, .var 5]))) [.ret (.cst (.bl false))] [], .set 2 (.call 2 none [0, 1] [.call 4 none [0, 1] [.var 5, .var 6], .var 5]), .ite (.or (.not (.call 11 none [0, 1] [.var 2, .call 15 none [0, 1] [.call 17 none [0, 1] [.var 5, .var 6], .var 5]])) (.or (.not (.call 22 none [0, 1] [.var 2, .var 6])) (.not (.call 22 none [0, 1] [.var 5, .var 2])))) [.ret (.cst (.bl false))] []], .fer (.name 3) 1 [.cst (.int 3)] [.set 2 (.call 2 none [0, 1] [.call 4 none [0, 1] [.var 2, .var 2], .call 20 (some 0) [0] [.var 1]])], .set 4 (.ite (.prim .ne [.prim .ix [.var 2, .cst (.int 0)], .cst (.int 0)]) (.call 2 none [0, 1] [.var 2, .call 5 none [0, 1] [.pack true [.cst (.int 1), .cst (.int 1)], .var 2]]) (.var 2)), .ret (.and (.call 22 none [0, 1] [.var 2, .var 4]) (.and (.call 22 none [0, 1] [.var 4, .var 2]) (.call 23 none [0] [.var 2])))]
def d0 : DL.DefI := ⟨"common_divisor", topS 1, ["one", "other"], ["one", "other", "high", "low"], none, [⟨2, [], [0, 1]⟩], b0⟩
def d1 : DL.DefI := ⟨"fraction", topS 3, ["top", "bottom"], ["top", "bottom", "divisor"], none, [⟨2, [], [0, 1]⟩, ⟨0, ["bottom", "top"], [1, 0]⟩], b1⟩
def d2 : DL.DefI := ⟨"added", topS 4, ["one", "other"], ["one", "other"], none, [⟨2, [], [0, 1]⟩, ⟨0, ["other", "one"], [1, 0]⟩], b2⟩
def d3 : DL.DefI := ⟨"taken", topS 5, ["one", "other"], ["one", "other"], none, [⟨2, [], [0, 1]⟩, ⟨0, ["other", "one"], [1, 0]⟩], b3⟩
def d4 : DL.DefI := ⟨"multiplied", topS 6, ["one", "other"], ["one", "other"], none, [⟨2, [], [0, 1]⟩, ⟨0, ["other", "one"], [1, 0]⟩], b4⟩
def d5 : DL.DefI := ⟨"divided", topS 7, ["one", "other"], ["one", "other"], none, [⟨2, [], [0, 1]⟩, ⟨0, ["other", "one"], [1, 0]⟩], b5⟩
def d6 : DL.DefI := ⟨"less", topS 8, ["one", "other"], ["one", "other"], none, [⟨2, [], [0, 1]⟩, ⟨0, ["other", "one"], [1, 0]⟩], b6⟩
def d7 : DL.DefI := ⟨"_law_mixed", topS 10, ["number", "k"], ["number", "k", "first", "second"], none, [⟨2, [], [0, 1]⟩], b7⟩
def d8 : DL.DefI := ⟨"_law_start", topS 11, ["script"], ["script", "seed", "cell"], none, [⟨1, [], [0]⟩], b8⟩
def d9 : DL.DefI := ⟨"_law_take", topS 12, ["state", "limit"], ["state", "limit", "cells", "value", "cell"], some 0, [⟨2, [], [0, 1]⟩], b9⟩
def d10 : DL.DefI := ⟨"_law_pick", topS 13, ["state", "some"], ["state", "some"], some 0, [⟨2, [], [0, 1]⟩], b10⟩
def d11 : DL.DefI := ⟨"_law_same", topS 14, ["told", "due"], ["told", "due", "k"], none, [⟨2, [], [0, 1]⟩], b11⟩
def d12 : DL.DefI := ⟨"_law_is_due", topS 15, ["told", "due"], ["told", "due"], none, [⟨2, [], [0, 1]⟩], b12⟩
def d13 : DL.DefI := ⟨"_law_divisor", topS 16, ["one", "other"], ["one", "other", "turn"], none, [⟨2, [], [0, 1]⟩], b13⟩
def d14 : DL.DefI := ⟨"_law_fraction", topS 17, ["top", "below"], ["top", "below", "shared"], none, [⟨2, [], [0, 1]⟩], b14⟩
def d15 : DL.DefI := ⟨"_law_sum", topS 18, ["one", "other"], ["one", "other"], none, [⟨2, [], [0, 1]⟩], b15⟩
def d16 : DL.DefI := ⟨"_law_gap", topS 19, ["one", "other"], ["one", "other"], none, [⟨2, [], [0, 1]⟩], b16⟩
def d17 : DL.DefI := ⟨"_law_product", topS 20, ["one", "other"], ["one", "other"], none, [⟨2, [], [0, 1]⟩], b17⟩
def d18 : DL.DefI := ⟨"_law_over", topS 21, ["one", "other"], ["one", "other"], none, [⟨2, [], [0, 1]⟩], b18⟩
def d19 : DL.DefI := ⟨"_law_less", topS 22, ["one", "other"], ["one", "other"], none, [⟨2, [], [0, 1]⟩], b19⟩
def d20 : DL.DefI := ⟨"_law_number", topS 23, ["state"], ["state", "top"], some 0, [⟨1, [], [0]⟩], b20⟩
def d21 : DL.DefI := ⟨"_law_wholes_are_told", topS 24, ["state"], ["state", "turn", "shared", "top", "below", "due"], some 0, [⟨1, [], [0]⟩], b21⟩
def d22 : DL.DefI := ⟨"_law_pair_is_told", topS 25, ["one", "other"], ["one", "other"], none, [⟨2, [], [0, 1]⟩], b22⟩
def d23 : DL.DefI := ⟨"_law_are_long_told", topS 26, ["long"], ["long", "due", "more", "top", "below"], none, [⟨1, [], [0]⟩], b23⟩
def d24 : DL.DefI := ⟨"law", topS 27, ["script"], ["script", "state", "long", "turn", "near", "one", "other"], none, [], b24⟩
def dfs : List DL.DefI := [d0, d1, d2, d3, d4, d5, d6, d7, d8, d9, d10, d11, d12, d13, d14, d15, d16, d17, d18, d19, d20, d21, d22, d23, d24]
def cns : List (Str × DL.D) := []
def bls : List Str := ["abs", "bool", "int", "isinstance", "len", "list", "range", "str", "tuple"]
theorem t0 : DL.DefTr dfs cns bls d0 := ⟨⟨rfl, rfl, rfl, by decide +kernel, rfl, by decide +kernel, by decide +kernel⟩, by decide +kernel, by rfl⟩
theorem t1 : DL.DefTr dfs cns bls d1 := ⟨⟨rfl, rfl, rfl, by decide +kernel, rfl, by decide +kernel, by decide +kernel⟩, by decide +kernel, by rfl⟩
theorem t2 : DL.DefTr dfs cns bls d2 := ⟨⟨rfl, rfl, rfl, by decide +kernel, rfl, by decide +kernel, by decide +kernel⟩, by decide +kernel, by rfl⟩
theorem t3 : DL.DefTr dfs cns bls d3 := ⟨⟨rfl, rfl, rfl, by decide +kernel, rfl, by decide +kernel, by decide +kernel⟩, by decide +kernel, by rfl⟩
theorem t4 : DL.DefTr dfs cns bls d4 := ⟨⟨rfl, rfl, rfl, by decide +kernel, rfl, by decide +kernel, by decide +kernel⟩, by decide +kernel, by rfl⟩
theorem t5 : DL.DefTr dfs cns bls d5 := ⟨⟨rfl, rfl, rfl, by decide +kernel, rfl, by decide +kernel, by decide +kernel⟩, by decide +kernel, by rfl⟩
theorem t6 : DL.DefTr dfs cns bls d6 := ⟨⟨rfl, rfl, rfl, by decide +kernel, rfl, by decide +kernel, by decide +kernel⟩, by decide +kernel, by rfl⟩
theorem t7 : DL.DefTr dfs cns bls d7 := ⟨⟨rfl, rfl, rfl, by decide +kernel, rfl, by decide +kernel, by decide +kernel⟩, by decide +kernel, by rfl⟩
theorem t8 : DL.DefTr dfs cns bls d8 := ⟨⟨rfl, rfl, rfl, by decide +kernel, rfl, by decide +kernel, by decide +kernel⟩, by decide +kernel, by rfl⟩
theorem t9 : DL.DefTr dfs cns bls d9 := ⟨⟨rfl, rfl, rfl, by decide +kernel, rfl, by decide +kernel, by decide +kernel⟩, by decide +kernel, by rfl⟩
theorem t10 : DL.DefTr dfs cns bls d10 := ⟨⟨rfl, rfl, rfl, by decide +kernel, rfl, by decide +kernel, by decide +kernel⟩, by decide +kernel, by rfl⟩
theorem t11 : DL.DefTr dfs cns bls d11 := ⟨⟨rfl, rfl, rfl, by decide +kernel, rfl, by decide +kernel, by decide +kernel⟩, by decide +kernel, by rfl⟩
theorem t12 : DL.DefTr dfs cns bls d12 := ⟨⟨rfl, rfl, rfl, by decide +kernel, rfl, by decide +kernel, by decide +kernel⟩, by decide +kernel, by rfl⟩
theorem t13 : DL.DefTr dfs cns bls d13 := ⟨⟨rfl, rfl, rfl, by decide +kernel, rfl, by decide +kernel, by decide +kernel⟩, by decide +kernel, by rfl⟩
theorem t14 : DL.DefTr dfs cns bls d14 := ⟨⟨rfl, rfl, rfl, by decide +kernel, rfl, by decide +kernel, by decide +kernel⟩, by decide +kernel, by rfl⟩
theorem t15 : DL.DefTr dfs cns bls d15 := ⟨⟨rfl, rfl, rfl, by decide +kernel, rfl, by decide +kernel, by decide +kernel⟩, by decide +kernel, by rfl⟩
theorem t16 : DL.DefTr dfs cns bls d16 := ⟨⟨rfl, rfl, rfl, by decide +kernel, rfl, by decide +kernel, by decide +kernel⟩, by decide +kernel, by rfl⟩
theorem t17 : DL.DefTr dfs cns bls d17 := ⟨⟨rfl, rfl, rfl, by decide +kernel, rfl, by decide +kernel, by decide +kernel⟩, by decide +kernel, by rfl⟩
theorem t18 : DL.DefTr dfs cns bls d18 := ⟨⟨rfl, rfl, rfl, by decide +kernel, rfl, by decide +kernel, by decide +kernel⟩, by decide +kernel, by rfl⟩
theorem t19 : DL.DefTr dfs cns bls d19 := ⟨⟨rfl, rfl, rfl, by decide +kernel, rfl, by decide +kernel, by decide +kernel⟩, by decide +kernel, by rfl⟩
theorem t20 : DL.DefTr dfs cns bls d20 := ⟨⟨rfl, rfl, rfl, by decide +kernel, rfl, by decide +kernel, by decide +kernel⟩, by decide +kernel, by rfl⟩
theorem t21 : DL.DefTr dfs cns bls d21 := ⟨⟨rfl, rfl, rfl, by decide +kernel, rfl, by decide +kernel, by decide +kernel⟩, by decide +kernel, by rfl⟩
theorem t22 : DL.DefTr dfs cns bls d22 := ⟨⟨rfl, rfl, rfl, by decide +kernel, rfl, by decide +kernel, by decide +kernel⟩, by decide +kernel, by rfl⟩
theorem t23 : DL.DefTr dfs cns bls d23 := ⟨⟨rfl, rfl, rfl, by decide +kernel, rfl, by decide +kernel, by decide +kernel⟩, by decide +kernel, by rfl⟩
theorem t24 : DL.DefTr dfs cns bls d24 := ⟨⟨rfl, rfl, rfl, by decide +kernel, rfl, by decide +kernel, by decide +kernel⟩, by decide +kernel, by rfl⟩
theorem tAll : ∀ d ∈ dfs, DL.DefTr dfs cns bls d := by
  intro d h
  simp only [dfs, List.mem_cons, List.not_mem_nil, or_false] at h
  rcases h with rfl | rfl | rfl | rfl | rfl | rfl | rfl | rfl | rfl | rfl | rfl | rfl | rfl | rfl | rfl | rfl | rfl | rfl | rfl | rfl | rfl | rfl | rfl | rfl | rfl
  · exact t0
  · exact t1
  · exact t2
  · exact t3
  · exact t4
  · exact t5
  · exact t6
  · exact t7
  · exact t8
  · exact t9
  · exact t10
  · exact t11
  · exact t12
  · exact t13
  · exact t14
  · exact t15
  · exact t16
  · exact t17
  · exact t18
  · exact t19
  · exact t20
  · exact t21
  · exact t22
  · exact t23
  · exact t24
theorem s0 {K : PySem.W.Frag} {f : Addr} {fd : FuncData} (F : Fun K d0.name d0.name d0.st f fd) : ∀ sh ∈ d0.sh, DL.ShapeOk K fd d0.ps sh := by
  intro sh h
  simp only [d0, List.mem_cons, List.not_mem_nil, or_false] at h
  rcases h with rfl
  · exact DL.shape_of F fun _ _ _ _ _ _ s us ws h1 h2 => match us, ws, h1, h2 with | [_, _], [], _, _ => .of_eq rfl
theorem s1 {K : PySem.W.Frag} {f : Addr} {fd : FuncData} (F : Fun K d1.name d1.name d1.st f fd) : ∀ sh ∈ d1.sh, DL.ShapeOk K fd d1.ps sh := by
  intro sh h
  simp only [d1, List.mem_cons, List.not_mem_nil, or_false] at h
  rcases h with rfl | rfl
  · exact DL.shape_of F fun _ _ _ _ _ _ s us ws h1 h2 => match us, ws, h1, h2 with | [_, _], [], _, _ => .of_eq rfl
  · exact DL.shape_of F fun _ _ _ _ _ _ s us ws h1 h2 => match us, ws, h1, h2 with | [], [_, _], _, _ => .of_eq rfl
theorem s2 {K : PySem.W.Frag} {f : Addr} {fd : FuncData} (F : Fun K d2.name d2.name d2.st f fd) : ∀ sh ∈ d2.sh, DL.ShapeOk K fd d2.ps sh := by
  intro sh h
  simp only [d2, List.mem_cons, List.not_mem_nil, or_false] at h
  rcases h with rfl | rfl
  · exact DL.shape_of F fun _ _ _ _ _ _ s us ws h1 h2 => match us, ws, h1, h2 with | [_, _], [], _, _ => .of_eq rfl
  · exact DL.shape_of F fun _ _ _ _ _ _ s us ws h1 h2 => match us, ws, h1, h2 with | [], [_, _], _, _ => .of_eq rfl
theorem s3 {K : PySem.W.Frag} {f : Addr} {fd : FuncData} (F : Fun K d3.name d3.name d3.st f fd) : ∀ sh ∈ d3.sh, DL.ShapeOk K fd d3.ps sh := by
  intro sh h
  simp only [d3, List.mem_cons, List.not_mem_nil, or_false] at h
  rcases h with rfl | rfl
  · exact DL.shape_of F fun _ _ _ _ _ _ s us ws h1 h2 => match us, ws, h1, h2 with | [_, _], [], _, _ => .of_eq rfl
  · exact DL.shape_of F fun _ _ _ _ _ _ s us ws h1 h2 => match us, ws, h1, h2 with | [], [_, _], _, _ => .of_eq rfl
theorem s4 {K : PySem.W.Frag} {f : Addr} {fd : FuncData} (F : Fun K d4.name d4.name d4.st f fd) : ∀ sh ∈ d4.sh, DL.ShapeOk K fd d4.ps sh := by
  intro sh h
  simp only [d4, List.mem_cons, List.not_mem_nil, or_false] at h
  rcases h with rfl | rfl
  · exact DL.shape_of F fun _ _ _ _ _ _ s us ws h1 h2 => match us, ws, h1, h2 with | [_, _], [], _, _ => .of_eq rfl
  · exact DL.shape_of F fun _ _ _ _ _ _ s us ws h1 h2 => match us, ws, h1, h2 with | [], [_, _], _, _ => .of_eq rfl
theorem s5 {K : PySem.W.Frag} {f : Addr} {fd : FuncData} (F : Fun K d5.name d5.name d5.st f fd) : ∀ sh ∈ d5.sh, DL.ShapeOk K fd d5.ps sh := by
  intro sh h
  simp only [d5, List.mem_cons, List.not_mem_nil, or_false] at h
  rcases h with rfl | rfl
  · exact DL.shape_of F fun _ _ _ _ _ _ s us ws h1 h2 => match us, ws, h1, h2 with | [_, _], [], _, _ => .of_eq rfl
  · exact DL.shape_of F fun _ _ _ _ _ _ s us ws h1 h2 => match us, ws, h1, h2 with | [], [_, _], _, _ => .of_eq rfl
theorem s6 {K : PySem.W.Frag} {f : Addr} {fd : FuncData} (F : Fun K d6.name d6.name d6.st f fd) : ∀ sh ∈ d6.sh, DL.ShapeOk K fd d6.ps sh := by
  intro sh h
  simp only [d6, List.mem_cons, List.not_mem_nil, or_false] at h
  rcases h with rfl | rfl
  · exact DL.shape_of F fun _ _ _ _ _ _ s us ws h1 h2 => match us, ws, h1, h2 with | [_, _], [], _, _ => .of_eq rfl
  · exact DL.shape_of F fun _ _ _ _ _ _ s us ws h1 h2 => match us, ws, h1, h2 with | [], [_, _], _, _ => .of_eq rfl
theorem s7 {K : PySem.W.Frag} {f : Addr} {fd : FuncData} (F : Fun K d7.name d7.name d7.st f fd) : ∀ sh ∈ d7.sh, DL.ShapeOk K fd d7.ps sh := by
  intro sh h
  simp only [d7, List.mem_cons, List.not_mem_nil, or_false] at h
  rcases h with rfl
  · exact DL.shape_of F fun _ _ _ _ _ _ s us ws h1 h2 => match us, ws, h1, h2 with | [_, _], [], _, _ => .of_eq rfl
theorem s8 {K : PySem.W.Frag} {f : Addr} {fd : FuncData} (F : Fun K d8.name d8.name d8.st f fd) : ∀ sh ∈ d8.sh, DL.ShapeOk K fd d8.ps sh := by
  intro sh h
  simp only [d8, List.mem_cons, List.not_mem_nil, or_false] at h
  rcases h with rfl
  · exact DL.shape_of F fun _ _ _ _ _ _ s us ws h1 h2 => match us, ws, h1, h2 with | [_], [], _, _ => .of_eq rfl
theorem s9 {K : PySem.W.Frag} {f : Addr} {fd : FuncData} (F : Fun K d9.name d9.name d9.st f fd) : ∀ sh ∈ d9.sh, DL.ShapeOk K fd d9.ps sh := by
  intro sh h
  simp only [d9, List.mem_cons, List.not_mem_nil, or_false] at h
  rcases h with rfl
  · exact DL.shape_of F fun _ _ _ _ _ _ s us ws h1 h2 => match us, ws, h1, h2 with | [_, _], [], _, _ => .of_eq rfl
theorem s10 {K : PySem.W.Frag} {f : Addr} {fd : FuncData} (F : Fun K d10.name d10.name d10.st f fd) : ∀ sh ∈ d10.sh, DL.ShapeOk K fd d10.ps sh := by
  intro sh h
  simp only [d10, List.mem_cons, List.not_mem_nil, or_false] at h
  rcases h with rfl
  · exact DL.shape_of F fun _ _ _ _ _ _ s us ws h1 h2 => match us, ws, h1, h2 with | [_, _], [], _, _ => .of_eq rfl
theorem s11 {K : PySem.W.Frag} {f : Addr} {fd : FuncData} (F : Fun K d11.name d11.name d11.st f fd) : ∀ sh ∈ d11.sh, DL.ShapeOk K fd d11.ps sh := by
  intro sh h
  simp only [d11, List.mem_cons, List.not_mem_nil, or_false] at h
  rcases h with rfl
  · exact DL.shape_of F fun _ _ _ _ _ _ s us ws h1 h2 => match us, ws, h1, h2 with | [_, _], [], _, _ => .of_eq rfl
theorem s12 {K : PySem.W.Frag} {f : Addr} {fd : FuncData} (F : Fun K d12.name d12.name d12.st f fd) : ∀ sh ∈ d12.sh, DL.ShapeOk K fd d12.ps sh := by
  intro sh h
  simp only [d12, List.mem_cons, List.not_mem_nil, or_false] at h
  rcases h with rfl
  · exact DL.shape_of F fun _ _ _ _ _ _ s us ws h1 h2 => match us, ws, h1, h2 with | [_, _], [], _, _ => .of_eq rfl
theorem s13 {K : PySem.W.Frag} {f : Addr} {fd : FuncData} (F : Fun K d13.name d13.name d13.st f fd) : ∀ sh ∈ d13.sh, DL.ShapeOk K fd d13.ps sh := by
  intro sh h
  simp only [d13, List.mem_cons, List.not_mem_nil, or_false] at h
  rcases h with rfl
  · exact DL.shape_of F fun _ _ _ _ _ _ s us ws h1 h2 => match us, ws, h1, h2 with | [_, _], [], _, _ => .of_eq rfl
theorem s14 {K : PySem.W.Frag} {f : Addr} {fd : FuncData} (F : Fun K d14.name d14.name d14.st f fd) : ∀ sh ∈ d14.sh, DL.ShapeOk K fd d14.ps sh := by
  intro sh h
  simp only [d14, List.mem_cons, List.not_mem_nil, or_false] at h
  rcases h with rfl
  · exact DL.shape_of F fun _ _ _ _ _ _ s us ws h1 h2 => match us, ws, h1, h2 with | [_, _], [], _, _ => .of_eq rfl
theorem s15 {K : PySem.W.Frag} {f : Addr} {fd : FuncData} (F : Fun K d15.name d15.name d15.st f fd) : ∀ sh ∈ d15.sh, DL.ShapeOk K fd d15.ps sh := by
  intro sh h
  simp only [d15, List.mem_cons, List.not_mem_nil, or_false] at h
  rcases h with rfl
  · exact DL.shape_of F fun _ _ _ _ _ _ s us ws h1 h2 => match us, ws, h1, h2 with | [_, _], [], _, _ => .of_eq rfl
theorem s16 {K : PySem.W.Frag} {f : Addr} {fd : FuncData} (F : Fun K d16.name d16.name d16.st f fd) : ∀ sh ∈ d16.sh, DL.ShapeOk K fd d16.ps sh := by
  intro sh h
  simp only [d16, List.mem_cons, List.not_mem_nil, or_false] at h
  rcases h with rfl
  · exact DL.shape_of F fun _ _ _ _ _ _ s us ws h1 h2 => match us, ws, h1, h2 with | [_, _], [], _, _ => .of_eq rfl
theorem s17 {K : PySem.W.Frag} {f : Addr} {fd : FuncData} (F : Fun K d17.name d17.name d17.st f fd) : ∀ sh ∈ d17.sh, DL.ShapeOk K fd d17.ps sh := by
  intro sh h
  simp only [d17, List.mem_cons, List.not_mem_nil, or_false] at h
  rcases h with rfl
  · exact DL.shape_of F fun _ _ _ _ _ _ s us ws h1 h2 => match us, ws, h1, h2 with | [_, _], [], _, _ => .of_eq rfl
theorem s18 {K : PySem.W.Frag} {f : Addr} {fd : FuncData} (F : Fun K d18.name d18.name d18.st f fd) : ∀ sh ∈ d18.sh, DL.ShapeOk K fd d18.ps sh := by
  intro sh h
  simp only [d18, List.mem_cons, List.not_mem_nil, or_false] at h
  rcases h with rfl
  · exact DL.shape_of F fun _ _ _ _ _ _ s us ws h1 h2 => match us, ws, h1, h2 with | [_, _], [], _, _ => .of_eq rfl
theorem s19 {K : PySem.W.Frag} {f : Addr} {fd : FuncData} (F : Fun K d19.name d19.name d19.st f fd) : ∀ sh ∈ d19.sh, DL.ShapeOk K fd d19.ps sh := by
  intro sh h
  simp only [d19, List.mem_cons, List.not_mem_nil, or_false] at h
  rcases h with rfl
  · exact DL.shape_of F fun _ _ _ _ _ _ s us ws h1 h2 => match us, ws, h1, h2 with | [_, _], [], _, _ => .of_eq rfl
theorem s20 {K : PySem.W.Frag} {f : Addr} {fd : FuncData} (F : Fun K d20.name d20.name d20.st f fd) : ∀ sh ∈ d20.sh, DL.ShapeOk K fd d20.ps sh := by
  intro sh h
  simp only [d20, List.mem_cons, List.not_mem_nil, or_false] at h
  rcases h with rfl
  · exact DL.shape_of F fun _ _ _ _ _ _ s us ws h1 h2 => match us, ws, h1, h2 with | [_], [], _, _ => .of_eq rfl
theorem s21 {K : PySem.W.Frag} {f : Addr} {fd : FuncData} (F : Fun K d21.name d21.name d21.st f fd) : ∀ sh ∈ d21.sh, DL.ShapeOk K fd d21.ps sh := by
  intro sh h
  simp only [d21, List.mem_cons, List.not_mem_nil, or_false] at h
  rcases h with rfl
  · exact DL.shape_of F fun _ _ _ _ _ _ s us ws h1 h2 => match us, ws, h1, h2 with | [_], [], _, _ => .of_eq rfl
theorem s22 {K : PySem.W.Frag} {f : Addr} {fd : FuncData} (F : Fun K d22.name d22.name d22.st f fd) : ∀ sh ∈ d22.sh, DL.ShapeOk K fd d22.ps sh := by
  intro sh h
  simp only [d22, List.mem_cons, List.not_mem_nil, or_false] at h
  rcases h with rfl
  · exact DL.shape_of F fun _ _ _ _ _ _ s us ws h1 h2 => match us, ws, h1, h2 with | [_, _], [], _, _ => .of_eq rfl
theorem s23 {K : PySem.W.Frag} {f : Addr} {fd : FuncData} (F : Fun K d23.name d23.name d23.st f fd) : ∀ sh ∈ d23.sh, DL.ShapeOk K fd d23.ps sh := by
  intro sh h
  simp only [d23, List.mem_cons, List.not_mem_nil, or_false] at h
  rcases h with rfl
  · exact DL.shape_of F fun _ _ _ _ _ _ s us ws h1 h2 => match us, ws, h1, h2 with | [_], [], _, _ => .of_eq rfl
theorem s24 {K : PySem.W.Frag} {f : Addr} {fd : FuncData} (F : Fun K d24.name d24.name d24.st f fd) : ∀ sh ∈ d24.sh, DL.ShapeOk K fd d24.ps sh := fun sh h => by cases h
theorem all_mk {l : PySem.W.OpenLaw} {w : World} {K : PySem.W.Frag} {h : Heap} {mg : Str → Option Value} {fa : Addr} (X : K.In h) (G : h.Ns mainGlobals mg) (hfa : mg "law" = some (.ref fa)) (N : Nat)
    {od0 an0 : Option Addr} {sl0 : Array (Option Value)} {oc0 kV0 dc0 pm0 cd0 ct0 : Value} {f0 : Addr}
    (a0 : PySem.W.nsIn K mainGlobals "common_divisor" = some (some (.ref f0))) (l0 : K.lookup f0 = some ⟨oc0, od0, .func (PySem.W.fnOf "common_divisor" "common_divisor" (defArgs (topS 1)) (defBody (topS 1)) (defScope (topS 1)) .none kV0 dc0 pm0 an0 cd0 ct0), sl0⟩) (c0 : PySem.W.codeIn K cd0 "common_divisor" = true) (k0 : PySem.W.keepIn K (.ref f0) = true)
    {od1 an1 : Option Addr} {sl1 : Array (Option Value)} {oc1 kV1 dc1 pm1 cd1 ct1 : Value} {f1 : Addr}
    (a1 : PySem.W.nsIn K mainGlobals "fraction" = some (some (.ref f1))) (l1 : K.lookup f1 = some ⟨oc1, od1, .func (PySem.W.fnOf "fraction" "fraction" (defArgs (topS 3)) (defBody (topS 3)) (defScope (topS 3)) .none kV1 dc1 pm1 an1 cd1 ct1), sl1⟩) (c1 : PySem.W.codeIn K cd1 "fraction" = true) (k1 : PySem.W.keepIn K (.ref f1) = true)
    {od2 an2 : Option Addr} {sl2 : Array (Option Value)} {oc2 kV2 dc2 pm2 cd2 ct2 : Value} {f2 : Addr}
    (a2 : PySem.W.nsIn K mainGlobals "added" = some (some (.ref f2))) (l2 : K.lookup f2 = some ⟨oc2, od2, .func (PySem.W.fnOf "added" "added" (defArgs (topS 4)) (defBody (topS 4)) (defScope (topS 4)) .none kV2 dc2 pm2 an2 cd2 ct2), sl2⟩) (c2 : PySem.W.codeIn K cd2 "added" = true) (k2 : PySem.W.keepIn K (.ref f2) = true)
    {od3 an3 : Option Addr} {sl3 : Array (Option Value)} {oc3 kV3 dc3 pm3 cd3 ct3 : Value} {f3 : Addr}
    (a3 : PySem.W.nsIn K mainGlobals "taken" = some (some (.ref f3))) (l3 : K.lookup f3 = some ⟨oc3, od3, .func (PySem.W.fnOf "taken" "taken" (defArgs (topS 5)) (defBody (topS 5)) (defScope (topS 5)) .none kV3 dc3 pm3 an3 cd3 ct3), sl3⟩) (c3 : PySem.W.codeIn K cd3 "taken" = true) (k3 : PySem.W.keepIn K (.ref f3) = true)
    {od4 an4 : Option Addr} {sl4 : Array (Option Value)} {oc4 kV4 dc4 pm4 cd4 ct4 : Value} {f4 : Addr}
    (a4 : PySem.W.nsIn K mainGlobals "multiplied" = some (some (.ref f4))) (l4 : K.lookup f4 = some ⟨oc4, od4, .func (PySem.W.fnOf "multiplied" "multiplied" (defArgs (topS 6)) (defBody (topS 6)) (defScope (topS 6)) .none kV4 dc4 pm4 an4 cd4 ct4), sl4⟩) (c4 : PySem.W.codeIn K cd4 "multiplied" = true) (k4 : PySem.W.keepIn K (.ref f4) = true)
    {od5 an5 : Option Addr} {sl5 : Array (Option Value)} {oc5 kV5 dc5 pm5 cd5 ct5 : Value} {f5 : Addr}
    (a5 : PySem.W.nsIn K mainGlobals "divided" = some (some (.ref f5))) (l5 : K.lookup f5 = some ⟨oc5, od5, .func (PySem.W.fnOf "divided" "divided" (defArgs (topS 7)) (defBody (topS 7)) (defScope (topS 7)) .none kV5 dc5 pm5 an5 cd5 ct5), sl5⟩) (c5 : PySem.W.codeIn K cd5 "divided" = true) (k5 : PySem.W.keepIn K (.ref f5) = true)
    {od6 an6 : Option Addr} {sl6 : Array (Option Value)} {oc6 kV6 dc6 pm6 cd6 ct6 : Value} {f6 : Addr}
    (a6 : PySem.W.nsIn K mainGlobals "less" = some (some (.ref f6))) (l6 : K.lookup f6 = some ⟨oc6, od6, .func (PySem.W.fnOf "less" "less" (defArgs (topS 8)) (defBody (topS 8)) (defScope (topS 8)) .none kV6 dc6 pm6 an6 cd6 ct6), sl6⟩) (c6 : PySem.W.codeIn K cd6 "less" = true) (k6 : PySem.W.keepIn K (.ref f6) = true)
    {od7 an7 : Option Addr} {sl7 : Array (Option Value)} {oc7 kV7 dc7 pm7 cd7 ct7 : Value} {f7 : Addr}
    (a7 : PySem.W.nsIn K mainGlobals "_law_mixed" = some (some (.ref f7))) (l7 : K.lookup f7 = some ⟨oc7, od7, .func (PySem.W.fnOf "_law_mixed" "_law_mixed" (defArgs (topS 10)) (defBody (topS 10)) (defScope (topS 10)) .none kV7 dc7 pm7 an7 cd7 ct7), sl7⟩) (c7 : PySem.W.codeIn K cd7 "_law_mixed" = true) (k7 : PySem.W.keepIn K (.ref f7) = true)
    {od8 an8 : Option Addr} {sl8 : Array (Option Value)} {oc8 kV8 dc8 pm8 cd8 ct8 : Value} {f8 : Addr}
    (a8 : PySem.W.nsIn K mainGlobals "_law_start" = some (some (.ref f8))) (l8 : K.lookup f8 = some ⟨oc8, od8, .func (PySem.W.fnOf "_law_start" "_law_start" (defArgs (topS 11)) (defBody (topS 11)) (defScope (topS 11)) .none kV8 dc8 pm8 an8 cd8 ct8), sl8⟩) (c8 : PySem.W.codeIn K cd8 "_law_start" = true) (k8 : PySem.W.keepIn K (.ref f8) = true)
    {od9 an9 : Option Addr} {sl9 : Array (Option Value)} {oc9 kV9 dc9 pm9 cd9 ct9 : Value} {f9 : Addr}
    (a9 : PySem.W.nsIn K mainGlobals "_law_take" = some (some (.ref f9))) (l9 : K.lookup f9 = some ⟨oc9, od9, .func (PySem.W.fnOf "_law_take" "_law_take" (defArgs (topS 12)) (defBody (topS 12)) (defScope (topS 12)) .none kV9 dc9 pm9 an9 cd9 ct9), sl9⟩) (c9 : PySem.W.codeIn K cd9 "_law_take" = true) (k9 : PySem.W.keepIn K (.ref f9) = true)
    {od10 an10 : Option Addr} {sl10 : Array (Option Value)} {oc10 kV10 dc10 pm10 cd10 ct10 : Value} {f10 : Addr}
    (a10 : PySem.W.nsIn K mainGlobals "_law_pick" = some (some (.ref f10))) (l10 : K.lookup f10 = some ⟨oc10, od10, .func (PySem.W.fnOf "_law_pick" "_law_pick" (defArgs (topS 13)) (defBody (topS 13)) (defScope (topS 13)) .none kV10 dc10 pm10 an10 cd10 ct10), sl10⟩) (c10 : PySem.W.codeIn K cd10 "_law_pick" = true) (k10 : PySem.W.keepIn K (.ref f10) = true)
    {od11 an11 : Option Addr} {sl11 : Array (Option Value)} {oc11 kV11 dc11 pm11 cd11 ct11 : Value} {f11 : Addr}
    (a11 : PySem.W.nsIn K mainGlobals "_law_same" = some (some (.ref f11))) (l11 : K.lookup f11 = some ⟨oc11, od11, .func (PySem.W.fnOf "_law_same" "_law_same" (defArgs (topS 14)) (defBody (topS 14)) (defScope (topS 14)) .none kV11 dc11 pm11 an11 cd11 ct11), sl11⟩) (c11 : PySem.W.codeIn K cd11 "_law_same" = true) (k11 : PySem.W.keepIn K (.ref f11) = true)
    {od12 an12 : Option Addr} {sl12 : Array (Option Value)} {oc12 kV12 dc12 pm12 cd12 ct12 : Value} {f12 : Addr}
    (a12 : PySem.W.nsIn K mainGlobals "_law_is_due" = some (some (.ref f12))) (l12 : K.lookup f12 = some ⟨oc12, od12, .func (PySem.W.fnOf "_law_is_due" "_law_is_due" (defArgs (topS 15)) (defBody (topS 15)) (defScope (topS 15)) .none kV12 dc12 pm12 an12 cd12 ct12), sl12⟩) (c12 : PySem.W.codeIn K cd12 "_law_is_due" = true) (k12 : PySem.W.keepIn K (.ref f12) = true)
    {od13 an13 : Option Addr} {sl13 : Array (Option Value)} {oc13 kV13 dc13 pm13 cd13 ct13 : Value} {f13 : Addr}
    (a13 : PySem.W.nsIn K mainGlobals "_law_divisor" = some (some (.ref f13))) (l13 : K.lookup f13 = some ⟨oc13, od13, .func (PySem.W.fnOf "_law_divisor" "_law_divisor" (defArgs (topS 16)) (defBody (topS 16)) (defScope (topS 16)) .none kV13 dc13 pm13 an13 cd13 ct13), sl13⟩) (c13 : PySem.W.codeIn K cd13 "_law_divisor" = true) (k13 : PySem.W.keepIn K (.ref f13) = true)
    {od14 an14 : Option Addr} {sl14 : Array (Option Value)} {oc14 kV14 dc14 pm14 cd14 ct14 : Value} {f14 : Addr}
    (a14 : PySem.W.nsIn K mainGlobals "_law_fraction" = some (some (.ref f14))) (l14 : K.lookup f14 = some ⟨oc14, od14, .func (PySem.W.fnOf "_law_fraction" "_law_fraction" (defArgs (topS 17)) (defBody (topS 17)) (defScope (topS 17)) .none kV14 dc14 pm14 an14 cd14 ct14), sl14⟩) (c14 : PySem.W.codeIn K cd14 "_law_fraction" = true) (k14 : PySem.W.keepIn K (.ref f14) = true)
    {od15 an15 : Option Addr} {sl15 : Array (Option Value)} {oc15 kV15 dc15 pm15 cd15 ct15 : Value} {f15 : Addr}
    (a15 : PySem.W.nsIn K mainGlobals "_law_sum" = some (some (.ref f15))) (l15 : K.lookup f15 = some ⟨oc15, od15, .func (PySem.W.fnOf "_law_sum" "_law_sum" (defArgs (topS 18)) (defBody (topS 18)) (defScope (topS 18)) .none kV15 dc15 pm15 an15 cd15 ct15), sl15⟩) (c15 : PySem.W.codeIn K cd15 "_law_sum" = true) (k15 : PySem.W.keepIn K (.ref f15) = true)
    {od16 an16 : Option Addr} {sl16 : Array (Option Value)} {oc16 kV16 dc16 pm16 cd16 ct16 : Value} {f16 : Addr}
    (a16 : PySem.W.nsIn K mainGlobals "_law_gap" = some (some (.ref f16))) (l16 : K.lookup f16 = some ⟨oc16, od16, .func (PySem.W.fnOf "_law_gap" "_law_gap" (defArgs (topS 19)) (defBody (topS 19)) (defScope (topS 19)) .none kV16 dc16 pm16 an16 cd16 ct16), sl16⟩) (c16 : PySem.W.codeIn K cd16 "_law_gap" = true) (k16 : PySem.W.keepIn K (.ref f16) = true)
    {od17 an17 : Option Addr} {sl17 : Array (Option Value)} {oc17 kV17 dc17 pm17 cd17 ct17 : Value} {f17 : Addr}
    (a17 : PySem.W.nsIn K mainGlobals "_law_product" = some (some (.ref f17))) (l17 : K.lookup f17 = some ⟨oc17, od17, .func (PySem.W.fnOf "_law_product" "_law_product" (defArgs (topS 20)) (defBody (topS 20)) (defScope (topS 20)) .none kV17 dc17 pm17 an17 cd17 ct17), sl17⟩) (c17 : PySem.W.codeIn K cd17 "_law_product" = true) (k17 : PySem.W.keepIn K (.ref f17) = true)
    {od18 an18 : Option Addr} {sl18 : Array (Option Value)} {oc18 kV18 dc18 pm18 cd18 ct18 : Value} {f18 : Addr}
    (a18 : PySem.W.nsIn K mainGlobals "_law_over" = some (some (.ref f18))) (l18 : K.lookup f18 = some ⟨oc18, od18, .func (PySem.W.fnOf "_law_over" "_law_over" (defArgs (topS 21)) (defBody (topS 21)) (defScope (topS 21)) .none kV18 dc18 pm18 an18 cd18 ct18), sl18⟩) (c18 : PySem.W.codeIn K cd18 "_law_over" = true) (k18 : PySem.W.keepIn K (.ref f18) = true)
    {od19 an19 : Option Addr} {sl19 : Array (Option Value)} {oc19 kV19 dc19 pm19 cd19 ct19 : Value} {f19 : Addr}
    (a19 : PySem.W.nsIn K mainGlobals "_law_less" = some (some (.ref f19))) (l19 : K.lookup f19 = some ⟨oc19, od19, .func (PySem.W.fnOf "_law_less" "_law_less" (defArgs (topS 22)) (defBody (topS 22)) (defScope (topS 22)) .none kV19 dc19 pm19 an19 cd19 ct19), sl19⟩) (c19 : PySem.W.codeIn K cd19 "_law_less" = true) (k19 : PySem.W.keepIn K (.ref f19) = true)
    {od20 an20 : Option Addr} {sl20 : Array (Option Value)} {oc20 kV20 dc20 pm20 cd20 ct20 : Value} {f20 : Addr}
    (a20 : PySem.W.nsIn K mainGlobals "_law_number" = some (some (.ref f20))) (l20 : K.lookup f20 = some ⟨oc20, od20, .func (PySem.W.fnOf "_law_number" "_law_number" (defArgs (topS 23)) (defBody (topS 23)) (defScope (topS 23)) .none kV20 dc20 pm20 an20 cd20 ct20), sl20⟩) (c20 : PySem.W.codeIn K cd20 "_law_number" = true) (k20 : PySem.W.keepIn K (.ref f20) = true)
    {od21 an21 : Option Addr} {sl21 : Array (Option Value)} {oc21 kV21 dc21 pm21 cd21 ct21 : Value} {f21 : Addr}
    (a21 : PySem.W.nsIn K mainGlobals "_law_wholes_are_told" = some (some (.ref f21))) (l21 : K.lookup f21 = some ⟨oc21, od21, .func (PySem.W.fnOf "_law_wholes_are_told" "_law_wholes_are_told" (defArgs (topS 24)) (defBody (topS 24)) (defScope (topS 24)) .none kV21 dc21 pm21 an21 cd21 ct21), sl21⟩) (c21 : PySem.W.codeIn K cd21 "_law_wholes_are_told" = true) (k21 : PySem.W.keepIn K (.ref f21) = true)
    {od22 an22 : Option Addr} {sl22 : Array (Option Value)} {oc22 kV22 dc22 pm22 cd22 ct22 : Value} {f22 : Addr}
    (a22 : PySem.W.nsIn K mainGlobals "_law_pair_is_told" = some (some (.ref f22))) (l22 : K.lookup f22 = some ⟨oc22, od22, .func (PySem.W.fnOf "_law_pair_is_told" "_law_pair_is_told" (defArgs (topS 25)) (defBody (topS 25)) (defScope (topS 25)) .none kV22 dc22 pm22 an22 cd22 ct22), sl22⟩) (c22 : PySem.W.codeIn K cd22 "_law_pair_is_told" = true) (k22 : PySem.W.keepIn K (.ref f22) = true)
    {od23 an23 : Option Addr} {sl23 : Array (Option Value)} {oc23 kV23 dc23 pm23 cd23 ct23 : Value} {f23 : Addr}
    (a23 : PySem.W.nsIn K mainGlobals "_law_are_long_told" = some (some (.ref f23))) (l23 : K.lookup f23 = some ⟨oc23, od23, .func (PySem.W.fnOf "_law_are_long_told" "_law_are_long_told" (defArgs (topS 26)) (defBody (topS 26)) (defScope (topS 26)) .none kV23 dc23 pm23 an23 cd23 ct23), sl23⟩) (c23 : PySem.W.codeIn K cd23 "_law_are_long_told" = true) (k23 : PySem.W.keepIn K (.ref f23) = true)
    {od24 an24 : Option Addr} {sl24 : Array (Option Value)} {oc24 kV24 dc24 pm24 cd24 ct24 : Value} {f24 : Addr}
    (a24 : PySem.W.nsIn K mainGlobals "law" = some (some (.ref f24))) (l24 : K.lookup f24 = some ⟨oc24, od24, .func (PySem.W.fnOf "law" "law" (defArgs (topS 27)) (defBody (topS 27)) (defScope (topS 27)) .none kV24 dc24 pm24 an24 cd24 ct24), sl24⟩) (c24 : PySem.W.codeIn K cd24 "law" = true) (k24 : PySem.W.keepIn K (.ref f24) = true)
    (z0 : PySem.W.nsIn K mainGlobals "abs" = some none)
    (z1 : PySem.W.nsIn K mainGlobals "bool" = some none)
    (z2 : PySem.W.nsIn K mainGlobals "int" = some none)
    (z3 : PySem.W.nsIn K mainGlobals "isinstance" = some none)
    (z4 : PySem.W.nsIn K mainGlobals "len" = some none)
    (z5 : PySem.W.nsIn K mainGlobals "list" = some none)
    (z6 : PySem.W.nsIn K mainGlobals "range" = some none)
    (z7 : PySem.W.nsIn K mainGlobals "str" = some none)
    (z8 : PySem.W.nsIn K mainGlobals "tuple" = some none) :
    ∃ fd : FuncData, (∀ (s : Shared) (v : Value), BindsTo s fd ⟨[v], []⟩ [("script", v)]) ∧ ∀ base : Heap, K.In base → base.Ns mainGlobals mg → FnOk l.prog w K mg base (L2.CX l.prog w) N fa fd ["script"] (DL.spOf K DL.xi0 1 none (DL.callF (DL.progOf dfs) N 24)) := by
  have F0 := fun_mk (st := topS 1) l0 c0 k0
  have F1 := fun_mk (st := topS 3) l1 c1 k1
  have F2 := fun_mk (st := topS 4) l2 c2 k2
  have F3 := fun_mk (st := topS 5) l3 c3 k3
  have F4 := fun_mk (st := topS 6) l4 c4 k4
  have F5 := fun_mk (st := topS 7) l5 c5 k5
  have F6 := fun_mk (st := topS 8) l6 c6 k6
  have F7 := fun_mk (st := topS 10) l7 c7 k7
  have F8 := fun_mk (st := topS 11) l8 c8 k8
  have F9 := fun_mk (st := topS 12) l9 c9 k9
  have F10 := fun_mk (st := topS 13) l10 c10 k10
  have F11 := fun_mk (st := topS 14) l11 c11 k11
  have F12 := fun_mk (st := topS 15) l12 c12 k12
  have F13 := fun_mk (st := topS 16) l13 c13 k13
  have F14 := fun_mk (st := topS 17) l14 c14 k14
  have F15 := fun_mk (st := topS 18) l15 c15 k15
  have F16 := fun_mk (st := topS 19) l16 c16 k16
  have F17 := fun_mk (st := topS 20) l17 c17 k17
  have F18 := fun_mk (st := topS 21) l18 c18 k18
  have F19 := fun_mk (st := topS 22) l19 c19 k19
  have F20 := fun_mk (st := topS 23) l20 c20 k20
  have F21 := fun_mk (st := topS 24) l21 c21 k21
  have F22 := fun_mk (st := topS 25) l22 c22 k22
  have F23 := fun_mk (st := topS 26) l23 c23 k23
  have F24 := fun_mk (st := topS 27) l24 c24 k24
  have e := hfa.symm.trans (PySem.W.mg_of X G a24)
  cases e
  have hA : ∀ d ∈ dfs, DL.DefAt K mg d := by
    intro d h
    simp only [dfs, List.mem_cons, List.not_mem_nil, or_false] at h
    rcases h with rfl | rfl | rfl | rfl | rfl | rfl | rfl | rfl | rfl | rfl | rfl | rfl | rfl | rfl | rfl | rfl | rfl | rfl | rfl | rfl | rfl | rfl | rfl | rfl | rfl
    · exact ⟨_, _, F0, PySem.W.mg_of X G a0, s0 F0⟩
    · exact ⟨_, _, F1, PySem.W.mg_of X G a1, s1 F1⟩
    · exact ⟨_, _, F2, PySem.W.mg_of X G a2, s2 F2⟩
    · exact ⟨_, _, F3, PySem.W.mg_of X G a3, s3 F3⟩
    · exact ⟨_, _, F4, PySem.W.mg_of X G a4, s4 F4⟩
    · exact ⟨_, _, F5, PySem.W.mg_of X G a5, s5 F5⟩
    · exact ⟨_, _, F6, PySem.W.mg_of X G a6, s6 F6⟩
    · exact ⟨_, _, F7, PySem.W.mg_of X G a7, s7 F7⟩
    · exact ⟨_, _, F8, PySem.W.mg_of X G a8, s8 F8⟩
    · exact ⟨_, _, F9, PySem.W.mg_of X G a9, s9 F9⟩
    · exact ⟨_, _, F10, PySem.W.mg_of X G a10, s10 F10⟩
    · exact ⟨_, _, F11, PySem.W.mg_of X G a11, s11 F11⟩
    · exact ⟨_, _, F12, PySem.W.mg_of X G a12, s12 F12⟩
    · exact ⟨_, _, F13, PySem.W.mg_of X G a13, s13 F13⟩
    · exact ⟨_, _, F14, PySem.W.mg_of X G a14, s14 F14⟩
    · exact ⟨_, _, F15, PySem.W.mg_of X G a15, s15 F15⟩
    · exact ⟨_, _, F16, PySem.W.mg_of X G a16, s16 F16⟩
    · exact ⟨_, _, F17, PySem.W.mg_of X G a17, s17 F17⟩
    · exact ⟨_, _, F18, PySem.W.mg_of X G a18, s18 F18⟩
    · exact ⟨_, _, F19, PySem.W.mg_of X G a19, s19 F19⟩
    · exact ⟨_, _, F20, PySem.W.mg_of X G a20, s20 F20⟩
    · exact ⟨_, _, F21, PySem.W.mg_of X G a21, s21 F21⟩
    · exact ⟨_, _, F22, PySem.W.mg_of X G a22, s22 F22⟩
    · exact ⟨_, _, F23, PySem.W.mg_of X G a23, s23 F23⟩
    · exact ⟨_, _, F24, PySem.W.mg_of X G a24, s24 F24⟩
  have hb : ∀ x ∈ bls, mg x = none := by
    intro x h
    simp only [bls, List.mem_cons, List.not_mem_nil, or_false] at h
    rcases h with rfl | rfl | rfl | rfl | rfl | rfl | rfl | rfl | rfl
    · exact PySem.W.mg_none_of X G z0
    · exact PySem.W.mg_none_of X G z1
    · exact PySem.W.mg_none_of X G z2
    · exact PySem.W.mg_none_of X G z3
    · exact PySem.W.mg_none_of X G z4
    · exact PySem.W.mg_none_of X G z5
    · exact PySem.W.mg_none_of X G z6
    · exact PySem.W.mg_none_of X G z7
    · exact PySem.W.mg_none_of X G z8
  have hc : ∀ x d, cns.lookup x = some d → ∃ u v, mg x = some u ∧ RelV v u ∧ ∀ F H, DL.Rep K F H v d := fun x d h => by cases h
  exact ⟨_, fun s v => .of_eq rfl, fun base _ _ => DL.prog_ok hA tAll hc hb N 24 d24 rfl _ _ F24⟩
end K01

set_option Elab.async false
set_option linter.all false
set_option maxRecDepth 100000
set_option maxHeartbeats 4000000
set_option exponentiation.threshold 20000
namespace K01
open PySem PySem.Spec PyProof.Rows L2
open DL (If Post On Bl Sl D callF post_fn mulOk mulOk_r mulOk_l mulOk_w fmod_pos log_small)
abbrev P := DL.progOf dfs
section
variable {n : Nat} {Q : Sl × List Sl → Prop}
theorem mixed_run {a k : Int} (q : ∀ v : Int, Q (.val (.int v), [.un, .un])) : Post (callF P (n + 1) 7 [.val (.int a), .val (.int k)]) Q := by
  rw [post_fn (fd := d7.fd) rfl]
  simp [d7, b7, DL.DefI.fd]
  have b1 := fmod_pos (a * 48271 + k * 69621 + 97) 2147483647 (by decide)
  exact ⟨mulOk_r (by decide) (by decide), mulOk_r (by decide) (by decide), mulOk_l (by decide) (by decide), mulOk_l (by omega) (by omega), mulOk_r (by decide) (by decide), mulOk_r (by decide) (by decide), q _⟩
/-- a state -/
def St (ds : List D) : Prop := ∃ (a b c d e : Int) (ns : List Int), 0 ≤ b ∧ ds = [.int a, .int b, .int c, .int d, .lst (ns.map D.int), .int e]
theorem start_run {ns : List Int} (hn : ns.length ≤ 63) (q : ∀ st, St st → Q (.own st, [.un])) : Post (callF P (n + 2) 8 [.val (.lst (ns.map D.int))]) Q := by
  rw [post_fn (fd := d8.fd) rfl]
  simp [d8, b8, DL.DefI.fd]
  rw [show (63 : Int) = ((63 : Nat) : Int) from rfl, DL.cutD_to, List.take_of_length_le (by simpa using hn)]
  refine DL.forL_inv (fun ds l => ∃ (ms : List Int) (s : Int) (c : Sl), ds = ms.map D.int ∧ l = [.val (.lst (ns.map D.int)), .val (.int s), c]) ⟨ns, _, _, rfl, rfl⟩ (fun d ds l h => ?_) (fun l h => ?_)
  · obtain ⟨ms, s, c, e, rfl⟩ := h
    cases ms with
    | nil => cases e
    | cons m ms =>
      injection e with e1 e2
      subst e1 e2
      simp
      refine mixed_run fun v => ?_
      simp
      exact ⟨ms, rfl⟩
  · obtain ⟨ms, s, c, e, rfl⟩ := h
    simp
    rw [show (63 : Int) = ((63 : Nat) : Int) from rfl, DL.cutD_to, List.take_of_length_le (by simpa using hn)]
    exact q _ ⟨0, 0, 0, s, 0, ns, by decide, rfl⟩
theorem take_tail {a b c d e m : Int} {ns : List Int} {s2 s3 s4 : Sl} (hb : 0 ≤ b) (hm : 0 < m) (hm2 : m < 2 ^ 64) (q : ∀ st' v, St st' → 0 ≤ v → v < m → Q (.val (.int v), [.own st', .un])) :
    Post (DL.exB (callF P (n + 1)) (b9.drop 3) [.own [.int a, .int b, .int c, .int d, .lst (ns.map D.int), .int e], .val (.int m), s2, s3, s4]) (DL.endQ 2 (some 0) Q) := by
  simp [b9]
  have m0 : m ≠ 0 := by omega
  (first | refine If.hh (fun h => ?_) (fun h => ?_) | refine If.ha (fun h => ?_) (fun h => ?_) | refine If.ah (fun h => ?_) (fun h => ?_) | refine If.aa (fun h => ?_) (fun h => ?_))
  · simp
    refine mixed_run fun v => ?_
    simp [m0]
    exact q _ _ ⟨a, b, c, d, e, ns, hb, rfl⟩ (fmod_pos _ _ hm).1 (fmod_pos _ _ hm).2
  · simp [m0]
    have e1 : mulOk (a.fdiv m) (if 1 < e then 1 else 0) = true := mulOk_r (by split <;> decide) (by split <;> decide)
    exact ⟨log_small (by omega), e1, q _ _ ⟨_, b, c, d, _, ns, hb, rfl⟩ (fmod_pos _ _ hm).1 (fmod_pos _ _ hm).2⟩
theorem take_run {st : List D} {m : Int} (hs : St st) (hm : 0 < m) (hm2 : m < 2 ^ 64) (q : ∀ st' v, St st' → 0 ≤ v → v < m → Q (.val (.int v), [.own st', .un])) : Post (callF P (n + 2) 9 [.own st, .val (.int m)]) Q := by
  obtain ⟨a, b, c, d, e, ns, hb, rfl⟩ := hs
  rw [post_fn (fd := d9.fd) rfl]
  simp [d9, b9, DL.DefI.fd]
  have m0 : m ≠ 0 := by omega
  (first | refine If.hh (fun h => ?_) (fun h => ?_) | refine If.ha (fun h => ?_) (fun h => ?_) | refine If.ah (fun h => ?_) (fun h => ?_) | refine If.aa (fun h => ?_) (fun h => ?_))
  · have h : a = 0 := by simpa using h
    subst h
    simp
    (first | refine If.hh (fun h => ?_) (fun h => ?_) | refine If.ha (fun h => ?_) (fun h => ?_) | refine If.ah (fun h => ?_) (fun h => ?_) | refine If.aa (fun h => ?_) (fun h => ?_))
    · simp at h
      simp
      obtain ⟨k, rfl⟩ := Int.eq_ofNat_of_zero_le hb
      rw [DL.atI_nat', List.getElem?_map, List.getElem?_eq_getElem (show k < ns.length by omega)]
      generalize ns[k]'_ = x
      simp
      (first | refine If.hh (fun h2 => ?_) (fun h2 => ?_) | refine If.ha (fun h2 => ?_) (fun h2 => ?_) | refine If.ah (fun h2 => ?_) (fun h2 => ?_) | refine If.aa (fun h2 => ?_) (fun h2 => ?_))
      · simp
        refine mixed_run fun v => ?_
        simp [m0]
        exact q _ _ ⟨0, _, _, _, _, ns, by omega, rfl⟩ (fmod_pos _ _ hm).1 (fmod_pos _ _ hm).2
      · simp
        have t := take_tail (n := n) (a := if x < 0 then -x else x) (b := (k : Int) + 1) (c := c + 1) (d := d) (e := 60) (ns := ns) (s2 := .val (.lst (ns.map D.int))) (s3 := .un) (s4 := .val (.int x)) (by omega) hm hm2 q
        simpa [b9] using t
    · simpa [b9] using take_tail (n := n) (a := 0) (b := b) (c := c + 1) (d := d) (e := e) (ns := ns) (s2 := .val (.lst (ns.map D.int))) (s3 := .un) (s4 := .un) hb hm hm2 q
  · simpa [b9] using take_tail (n := n) (a := a) (b := b) (c := c + 1) (d := d) (e := e) (ns := ns) (s2 := .val (.lst (ns.map D.int))) (s3 := .un) (s4 := .un) hb hm hm2 q
theorem pick_run {st : List D} {ds : List D} (hs : St st) (h0 : ds ≠ []) (hl : ds.length < 2 ^ 64) (q : ∀ st' d, St st' → d ∈ ds → Q (.val d, [.own st', .un])) : Post (callF P (n + 3) 10 [.own st, .val (.lst ds)]) Q := by
  rw [post_fn (fd := d10.fd) rfl]
  simp [d10, b10, DL.DefI.fd]
  have lp := List.length_pos_iff.mpr h0
  refine take_run hs (by omega) (by omega) fun st' v hs' v0 vm => ?_
  simp
  obtain ⟨k, rfl⟩ := Int.eq_ofNat_of_zero_le v0
  rw [DL.atI_nat', List.getElem?_eq_getElem (show k < ds.length by omega)]
  simp
  exact q _ _ hs' (List.getElem_mem _)
theorem same_int {i : Int} (q : Q (.val (.bl true), [.un, .un])) : Post (callF P (n + 1) 11 [.val (.int i), .val (.int i)]) Q := by
  rw [post_fn (fd := d11.fd) rfl]
  simp [d11, b11, DL.DefI.fd, DL.istD]
  exact q
theorem same_run {xs : List Int} (hl : xs.length ≤ 1000) (q : Q (.val (.bl true), [.un, .un])) : Post (callF P (n + 2) 11 [.val (.tup (xs.map D.int)), .val (.tup (xs.map D.int))]) Q := by
  rw [post_fn (fd := d11.fd) rfl]
  simp [d11, b11, DL.DefI.fd, DL.istD]
  refine ⟨DL.rgOk_ok (by omega) (by omega) (by omega) (by omega), ?_⟩
  have hget := fun i d => @DL.rgD_get 0 xs.length i d
  generalize DL.rgD 0 xs.length = zs at hget ⊢
  refine DL.forL_ix (fun i l => ∃ c, l = [.val (.tup (xs.map D.int)), .val (.tup (xs.map D.int)), c]) ⟨_, rfl⟩ (fun i d l hd h => ?_) (fun l h => ?_)
  · obtain ⟨c, rfl⟩ := h
    obtain ⟨rfl, hi⟩ := hget _ _ hd
    simp
    rw [DL.atI_nat', List.getElem?_map, List.getElem?_eq_getElem (show i < xs.length by omega)]
    simp
    refine same_int ?_
    simp
  · obtain ⟨c, rfl⟩ := h
    simpa using q
theorem same_2 {a b : Int} (q : Q (.val (.bl true), [.un, .un])) : Post (callF P (n + 2) 11 [.val (.tup [.int a, .int b]), .val (.tup [.int a, .int b])]) Q := same_run (xs := [a, b]) (by simp) q
theorem due_run {b : Bool} (q : Q (.val (.bl true), [.un, .un])) : Post (callF P (n + 1) 12 [.val (.bl b), .val (.bl b)]) Q := by
  rw [post_fn (fd := d12.fd) rfl]
  cases b <;> (simp [d12, b12, DL.DefI.fd]; exact q)
theorem lgcd_run {a b : Int} {N : Nat} (hN : N ≤ 9000) (ha0 : 0 ≤ a) (hb0 : 0 ≤ b) (ha : a.natAbs < 2 ^ N) (hb : b.natAbs < 2 ^ N) (q : Q (.val (.int (Int.gcd a b : Int)), [.un, .un])) :
    Post (callF P (n + 1) 13 [.val (.int a), .val (.int b)]) Q := by
  rw [post_fn (fd := d13.fd) rfl]
  simp [d13, b13, DL.DefI.fd]
  obtain ⟨h, rfl⟩ := Int.eq_ofNat_of_zero_le ha0
  obtain ⟨lo, rfl⟩ := Int.eq_ofNat_of_zero_le hb0
  refine ⟨DL.rgOk_ok (by omega) (by omega) (by omega) (by omega), ?_⟩
  have e := DL.rgD_length 0 100000
  generalize DL.rgD 0 100000 = xs at e ⊢
  refine DL.forL_inv (fun ds l => ∃ (m h' lo' : Nat) (c : Sl), l = [.val (.int h'), .val (.int lo'), c] ∧ Nat.gcd h' lo' = Nat.gcd h lo ∧ FR.Far m h' lo' ∧ m ≤ ds.length) ?_ (fun d ds l hh => ?_) (fun l hh => ?_)
  · refine ⟨2 * N + 1, h, lo, _, rfl, rfl, FR.far_of (by simpa using ha) (by simpa using hb), ?_⟩
    rw [e]; omega
  · obtain ⟨m, h', lo', c, rfl, hg, hf, hm⟩ := hh
    simp
    (first | refine If.hh (fun h0 => ?_) (fun h0 => ?_) | refine If.ha (fun h0 => ?_) (fun h0 => ?_) | refine If.ah (fun h0 => ?_) (fun h0 => ?_) | refine If.aa (fun h0 => ?_) (fun h0 => ?_))
    · have h0 : lo' = 0 := by simpa using h0
      subst h0
      rw [Nat.gcd_zero_right] at hg
      simp
      rw [hg]
      exact q
    · have h0 : lo' ≠ 0 := by simpa using h0
      obtain ⟨m0, hf'⟩ := hf.next (Nat.pos_of_ne_zero h0)
      simp
      rw [List.length_cons] at hm
      refine ⟨h0, m - 1, lo', h' % lo', ⟨rfl, ?_⟩, ?_, hf', by omega⟩
      · rw [Int.fmod_eq_emod_of_nonneg _ (Int.natCast_nonneg lo')]; rfl
      · rw [Nat.gcd_comm lo', ← Nat.gcd_rec, Nat.gcd_comm, hg]
  · obtain ⟨m, h', lo', c, rfl, hg, hf, hm⟩ := hh
    have m0 : m = 0 := by simpa using hm
    subst m0
    have h0 : lo' = 0 := by
      rcases hf with ⟨h1, h2⟩ | ⟨h1, _⟩
      · have := Nat.lt_one_iff.mp h2
        rcases Nat.mul_eq_zero.mp this with z | z <;> omega
      · exact absurd h1 (Nat.lt_irrefl 0)
    subst h0
    rw [Nat.gcd_zero_right] at hg
    simp
    rw [hg]
    exact q
theorem lfrac_run {t b : Int} {N : Nat} (hN : N ≤ 8999) (ht : t.natAbs < 2 ^ N) (hb : b.natAbs < 2 ^ N) (b0 : b ≠ 0) (q : Q (.val (.tup [.int (FR.nT t b), .int (FR.nB t b)]), [.un, .un])) :
    Post (callF P (n + 2) 14 [.val (.int t), .val (.int b)]) Q := by
  rw [post_fn (fd := d14.fd) rfl]
  have gp := FR.gcd_pos (t := t) b0
  have gl : Nat.log2 (Int.gcd t b) < 9000 := by
    have le : Int.gcd t b ≤ b.natAbs := by
      rw [Int.gcd_eq_natAbs_gcd_natAbs]
      exact Nat.gcd_le_right _ (Nat.pos_of_ne_zero (by omega))
    exact (Nat.log2_lt (by omega)).mpr (Nat.lt_of_le_of_lt le (Nat.lt_of_lt_of_le hb (Nat.pow_le_pow_right (by decide) (by omega))))
  have g0 : (Int.gcd t b : Int) ≠ 0 := by omega
  unfold FR.nT FR.nB at q
  simp [d14, b14, DL.DefI.fd]
  (first | refine If.hh (fun h => ?_) (fun h => ?_) | refine If.ha (fun h => ?_) (fun h => ?_) | refine If.ah (fun h => ?_) (fun h => ?_) | refine If.aa (fun h => ?_) (fun h => ?_))
  · have h : 0 < b := by simpa using h
    simp
    have e : (if t < 0 then -t else t).gcd b = Int.gcd t b := by split <;> simp
    refine lgcd_run (N := N) (by omega) (by split <;> omega) (by omega) (by split <;> simpa using ht) hb ?_
    rw [e]
    simp [g0, gl]
    rw [if_pos h, if_pos h] at q
    rw [Int.fdiv_eq_ediv_of_dvd (Int.gcd_dvd_left _ _), Int.fdiv_eq_ediv_of_dvd (Int.gcd_dvd_right _ _)]
    exact ⟨fun _ => b0, q⟩
  · have h : ¬ 0 < b := by simpa using h
    simp
    have e : (if 0 < t then t else -t).gcd (-b) = Int.gcd t b := by split <;> simp
    refine lgcd_run (N := N) (by omega) (by split <;> omega) (by omega) (by split <;> simpa using ht) (by simpa using hb) ?_
    rw [e]
    simp [g0, gl]
    rw [if_neg h, if_neg h] at q
    rw [Int.fdiv_eq_ediv_of_dvd (Int.dvd_neg.mpr (Int.gcd_dvd_left _ _)), Int.fdiv_eq_ediv_of_dvd (Int.dvd_neg.mpr (Int.gcd_dvd_right _ _))]
    exact ⟨fun _ => b0, q⟩
/-- a fraction in its own terms -/
structure Fr (N : Nat) (p q : Int) : Prop where
  pos : 0 < q
  cop : Int.gcd p q = 1
  num : p.natAbs < 2 ^ N
  den : q.natAbs < 2 ^ N
theorem Fr.of {N : Nat} {t b : Int} (ht : t.natAbs < 2 ^ N) (hb : b.natAbs < 2 ^ N) (b0 : b ≠ 0) : Fr N (FR.nT t b) (FR.nB t b) :=
  ⟨FR.nB_pos b0, FR.cop b0, Nat.lt_of_le_of_lt (FR.nT_le t b) ht, Nat.lt_of_le_of_lt (FR.nB_le t b) hb⟩
theorem Fr.mono {N M : Nat} {p q : Int} (h : Fr N p q) (hm : N ≤ M) : Fr M p q :=
  ⟨h.pos, h.cop, Nat.lt_of_lt_of_le h.num (Nat.pow_le_pow_right (by decide) hm), Nat.lt_of_lt_of_le h.den (Nat.pow_le_pow_right (by decide) hm)⟩
theorem mul_bd {a b : Int} {M N : Nat} (ha : a.natAbs < 2 ^ M) (hb : b.natAbs < 2 ^ N) : (a * b).natAbs < 2 ^ (M + N) := by
  rw [Int.natAbs_mul, Nat.pow_add]
  rcases Nat.eq_zero_or_pos b.natAbs with z | z
  · rw [z, Nat.mul_zero]; exact Nat.mul_pos (Nat.pow_pos (by decide)) (Nat.pow_pos (by decide))
  · exact Nat.mul_lt_mul_of_lt_of_le ha (Nat.le_of_lt hb) (Nat.pow_pos (by decide))
theorem add_bd {a b : Int} {N : Nat} (ha : a.natAbs < 2 ^ N) (hb : b.natAbs < 2 ^ N) : (a + b).natAbs < 2 ^ (N + 1) := by
  rw [Nat.pow_succ]
  omega
theorem sub_bd {a b : Int} {N : Nat} (ha : a.natAbs < 2 ^ N) (hb : b.natAbs < 2 ^ N) : (a - b).natAbs < 2 ^ (N + 1) := by
  rw [Nat.pow_succ]
  omega
abbrev fr (p q : Int) : D := .tup [.int p, .int q]
section
variable {M N : Nat} {p q r s : Int}
theorem cr (f : Fr M p q) (g : Fr N r s) : (p * s).natAbs < 2 ^ (M + N) ∧ (r * q).natAbs < 2 ^ (M + N) ∧ (q * s).natAbs < 2 ^ (M + N) ∧ q * s ≠ 0 := by
  refine ⟨mul_bd f.num g.den, ?_, mul_bd f.den g.den, ?_⟩
  · rw [Nat.add_comm]; exact mul_bd g.num f.den
  · exact Int.ne_of_gt (Int.mul_pos f.pos g.pos)
theorem up {x : Nat} {k : Nat} (h : x < 2 ^ k) : x < 2 ^ (k + 1) := Nat.lt_of_lt_of_le h (Nat.pow_le_pow_right (by decide) (by omega))
theorem added_run (f : Fr M p q) (g : Fr N r s) (h : M + N + 1 ≤ 8000) (k : Fr (M + N + 1) (FR.nT (p * s + r * q) (q * s)) (FR.nB (p * s + r * q) (q * s)) → Q (.val (fr (FR.nT (p * s + r * q) (q * s)) (FR.nB (p * s + r * q) (q * s))), [.un, .un])) :
    Post (callF P (n + 3) 2 [.val (fr p q), .val (fr r s)]) Q := by
  obtain ⟨c1, c2, c3, c4⟩ := cr f g
  rw [post_fn (fd := d2.fd) rfl]
  simp [d2, b2, DL.DefI.fd]
  refine ⟨mulOk_w f.num g.den (by omega), mulOk_w g.num f.den (by omega), mulOk_w f.den g.den (by omega), ?_⟩
  refine DL.fraction_run (g := 0) rfl rfl (N := M + N + 1) (by omega) (add_bd c1 c2) (up c3) c4 ?_
  simp
  exact k (.of (add_bd c1 c2) (up c3) c4)
theorem taken_run (f : Fr M p q) (g : Fr N r s) (h : M + N + 1 ≤ 8000) (k : Fr (M + N + 1) (FR.nT (p * s - r * q) (q * s)) (FR.nB (p * s - r * q) (q * s)) → Q (.val (fr (FR.nT (p * s - r * q) (q * s)) (FR.nB (p * s - r * q) (q * s))), [.un, .un])) :
    Post (callF P (n + 3) 3 [.val (fr p q), .val (fr r s)]) Q := by
  obtain ⟨c1, c2, c3, c4⟩ := cr f g
  rw [post_fn (fd := d3.fd) rfl]
  simp [d3, b3, DL.DefI.fd]
  refine ⟨mulOk_w f.num g.den (by omega), mulOk_w g.num f.den (by omega), mulOk_w f.den g.den (by omega), ?_⟩
  refine DL.fraction_run (g := 0) rfl rfl (N := M + N + 1) (by omega) (sub_bd c1 c2) (up c3) c4 ?_
  simp
  exact k (.of (sub_bd c1 c2) (up c3) c4)
theorem mult_run (f : Fr M p q) (g : Fr N r s) (h : M + N + 1 ≤ 8000) (k : Fr (M + N) (FR.nT (p * r) (q * s)) (FR.nB (p * r) (q * s)) → Q (.val (fr (FR.nT (p * r) (q * s)) (FR.nB (p * r) (q * s))), [.un, .un])) :
    Post (callF P (n + 3) 4 [.val (fr p q), .val (fr r s)]) Q := by
  obtain ⟨c1, c2, c3, c4⟩ := cr f g
  rw [post_fn (fd := d4.fd) rfl]
  simp [d4, b4, DL.DefI.fd]
  refine ⟨mulOk_w f.num g.num (by omega), mulOk_w f.den g.den (by omega), ?_⟩
  refine DL.fraction_run (g := 0) rfl rfl (N := M + N) (by omega) (mul_bd f.num g.num) c3 c4 ?_
  simp
  exact k (.of (mul_bd f.num g.num) c3 c4)
theorem div_run (f : Fr M p q) (g : Fr N r s) (r0 : r ≠ 0) (h : M + N + 1 ≤ 8000) (k : Fr (M + N) (FR.nT (p * s) (q * r)) (FR.nB (p * s) (q * r)) → Q (.val (fr (FR.nT (p * s) (q * r)) (FR.nB (p * s) (q * r))), [.un, .un])) :
    Post (callF P (n + 3) 5 [.val (fr p q), .val (fr r s)]) Q := by
  have c4 : q * r ≠ 0 := Int.mul_ne_zero (Int.ne_of_gt f.pos) r0
  rw [post_fn (fd := d5.fd) rfl]
  simp [d5, b5, DL.DefI.fd]
  refine ⟨mulOk_w f.num g.den (by omega), mulOk_w f.den g.num (by omega), ?_⟩
  refine DL.fraction_run (g := 0) rfl rfl (N := M + N) (by omega) (mul_bd f.num g.den) (mul_bd f.den g.num) c4 ?_
  simp
  exact k (.of (mul_bd f.num g.den) (mul_bd f.den g.num) c4)
theorem less_run (f : Fr M p q) (g : Fr N r s) (h : M + N + 1 ≤ 8000) (k : Q (.val (.bl (decide (p * s < r * q))), [.un, .un])) :
    Post (callF P (n + 1) 6 [.val (fr p q), .val (fr r s)]) Q := by
  rw [post_fn (fd := d6.fd) rfl]
  simp [d6, b6, DL.DefI.fd]
  exact ⟨mulOk_w f.num g.den (by omega), mulOk_w g.num f.den (by omega), k⟩
theorem lless_run (f : Fr M p q) (g : Fr N r s) (h : M + N + 1 ≤ 8000) (k : Q (.val (.bl (decide (p * s < r * q))), [.un, .un])) :
    Post (callF P (n + 1) 19 [.val (fr p q), .val (fr r s)]) Q := by
  rw [post_fn (fd := d19.fd) rfl]
  simp [d19, b19, DL.DefI.fd]
  exact ⟨mulOk_w f.num g.den (by omega), mulOk_w g.num f.den (by omega), k⟩
theorem lsum_run (f : Fr M p q) (g : Fr N r s) (h : M + N + 1 ≤ 8000) (k : Q (.val (fr (FR.nT (p * s + r * q) (q * s)) (FR.nB (p * s + r * q) (q * s))), [.un, .un])) :
    Post (callF P (n + 3) 15 [.val (fr p q), .val (fr r s)]) Q := by
  obtain ⟨c1, c2, c3, c4⟩ := cr f g
  rw [post_fn (fd := d15.fd) rfl]
  simp [d15, b15, DL.DefI.fd]
  refine ⟨mulOk_w f.num g.den (by omega), mulOk_w g.num f.den (by omega), mulOk_w f.den g.den (by omega), ?_⟩
  refine lfrac_run (N := M + N + 1) (by omega) (add_bd c1 c2) (up c3) c4 ?_
  simp
  exact k
theorem lgap_run (f : Fr M p q) (g : Fr N r s) (h : M + N + 1 ≤ 8000) (k : Q (.val (fr (FR.nT (p * s - r * q) (q * s)) (FR.nB (p * s - r * q) (q * s))), [.un, .un])) :
    Post (callF P (n + 3) 16 [.val (fr p q), .val (fr r s)]) Q := by
  obtain ⟨c1, c2, c3, c4⟩ := cr f g
  rw [post_fn (fd := d16.fd) rfl]
  simp [d16, b16, DL.DefI.fd]
  refine ⟨mulOk_w f.num g.den (by omega), mulOk_w g.num f.den (by omega), mulOk_w f.den g.den (by omega), ?_⟩
  refine lfrac_run (N := M + N + 1) (by omega) (sub_bd c1 c2) (up c3) c4 ?_
  simp
  exact k
theorem lprod_run (f : Fr M p q) (g : Fr N r s) (h : M + N + 1 ≤ 8000) (k : Q (.val (fr (FR.nT (p * r) (q * s)) (FR.nB (p * r) (q * s))), [.un, .un])) :
    Post (callF P (n + 3) 17 [.val (fr p q), .val (fr r s)]) Q := by
  obtain ⟨c1, c2, c3, c4⟩ := cr f g
  rw [post_fn (fd := d17.fd) rfl]
  simp [d17, b17, DL.DefI.fd]
  refine ⟨mulOk_w f.num g.num (by omega), mulOk_w f.den g.den (by omega), ?_⟩
  refine lfrac_run (N := M + N) (by omega) (mul_bd f.num g.num) c3 c4 ?_
  simp
  exact k
theorem lover_run (f : Fr M p q) (g : Fr N r s) (r0 : r ≠ 0) (h : M + N + 1 ≤ 8000) (k : Q (.val (fr (FR.nT (p * s) (q * r)) (FR.nB (p * s) (q * r))), [.un, .un])) :
    Post (callF P (n + 3) 18 [.val (fr p q), .val (fr r s)]) Q := by
  have c4 : q * r ≠ 0 := Int.mul_ne_zero (Int.ne_of_gt f.pos) r0
  rw [post_fn (fd := d18.fd) rfl]
  simp [d18, b18, DL.DefI.fd]
  refine ⟨mulOk_w f.num g.den (by omega), mulOk_w f.den g.num (by omega), ?_⟩
  refine lfrac_run (N := M + N) (by omega) (mul_bd f.num g.den) (mul_bd f.den g.num) c4 ?_
  simp
  exact k
end
end
end K01

set_option Elab.async false
set_option linter.all false
set_option maxRecDepth 100000
set_option maxHeartbeats 4000000
set_option exponentiation.threshold 20000
namespace K01
open PySem PySem.Spec PyProof.Rows L2
open DL (If Post On Bl Sl D callF post_fn mulOk mulOk_r mulOk_l mulOk_w fmod_pos log_small)
section
variable {n : Nat} {Q : Sl × List Sl → Prop}
theorem number_run {st : List D} (hs : St st) (q : ∀ st' p s, St st' → Fr 20 p s → Q (.val (fr p s), [.own st'])) : Post (callF P (n + 4) 20 [.own st]) Q := by
  rw [post_fn (fd := d20.fd) rfl]
  simp [d20, b20, DL.DefI.fd]
  refine take_run hs (by decide) (by decide) fun st1 v1 hs1 l1 u1 => ?_
  simp
  refine take_run hs1 (by decide) (by decide) fun st2 v2 hs2 l2 u2 => ?_
  simp
  refine pick_run hs2 (by simp) (by simp) fun st3 d hs3 hd => ?_
  have hd : ∃ x : Int, d = .int x ∧ -1000000 ≤ x ∧ x ≤ 1000000 := by
    simp at hd
    rcases hd with rfl | rfl | rfl | rfl | rfl
    · exact ⟨_, rfl, by omega, by omega⟩
    · exact ⟨_, rfl, by omega, by omega⟩
    · exact ⟨_, rfl, by omega, by omega⟩
    · exact ⟨_, rfl, by omega, by omega⟩
    · exact ⟨_, rfl, by omega, by omega⟩
  obtain ⟨x, rfl, x1, x2⟩ := hd
  simp
  refine take_run hs3 (by decide) (by decide) fun st4 v4 hs4 l4 u4 => ?_
  simp
  refine take_run hs4 (by decide) (by decide) fun st5 v5 hs5 l5 u5 => ?_
  simp
  refine pick_run hs5 (by simp) (by simp) fun st6 d hs6 hd => ?_
  have hd : ∃ x : Int, d = .int x ∧ 1 ≤ x ∧ x ≤ 10000 := by
    simp at hd
    rcases hd with rfl | rfl | rfl | rfl
    · exact ⟨_, rfl, by omega, by omega⟩
    · exact ⟨_, rfl, by omega, by omega⟩
    · exact ⟨_, rfl, by omega, by omega⟩
    · exact ⟨_, rfl, by omega, by omega⟩
  obtain ⟨y, rfl, y1, y2⟩ := hd
  simp
  have b1 : x.natAbs < 2 ^ 20 := by omega
  have b2 : y.natAbs < 2 ^ 20 := by omega
  refine lfrac_run (N := 20) (by omega) b1 b2 (by omega) ?_
  simp
  exact q _ _ _ hs6 (.of b1 b2 (by omega))
theorem wholes_run {st : List D} (hs : St st) (q : ∀ st', St st' → Q (.val (.bl true), [.own st'])) : Post (callF P (n + 4) 21 [.own st]) Q := by
  rw [post_fn (fd := d21.fd) rfl]
  simp [d21, b21, DL.DefI.fd]
  refine ⟨DL.rgOk_ok (by omega) (by omega) (by omega) (by omega), ?_⟩
  generalize DL.rgD 0 10 = xs
  refine DL.forL_inv (fun ds l => ∃ st' e1 e2 e3 e4 e5, St st' ∧ l = [.own st', e1, e2, e3, e4, e5]) ⟨st, _, _, _, _, _, hs, rfl⟩ (fun d ds l hh => ?_) (fun l hh => ?_)
  · obtain ⟨st, e1, e2, e3, e4, e5, hs, rfl⟩ := hh
    simp
    refine pick_run hs (by simp) (by simp) fun st1 d hs1 hd => ?_
    have hd : ∃ x : Int, d = .int x ∧ 1 ≤ x ∧ x ≤ 35 := by
      simp at hd
      rcases hd with rfl | rfl | rfl | rfl
      · exact ⟨_, rfl, by omega, by omega⟩
      · exact ⟨_, rfl, by omega, by omega⟩
      · exact ⟨_, rfl, by omega, by omega⟩
      · exact ⟨_, rfl, by omega, by omega⟩
    obtain ⟨x, rfl, x1, x2⟩ := hd
    simp
    refine take_run hs1 (by decide) (by decide) fun st2 v2 hs2 l2 u2 => ?_
    simp
    refine take_run hs2 (by decide) (by decide) fun st3 v3 hs3 l3 u3 => ?_
    simp
    refine pick_run hs3 (by simp) (by simp) fun st4 d hs4 hd => ?_
    have hd : ∃ x : Int, d = .int x ∧ -10000 ≤ x ∧ x ≤ 10000 := by
      simp at hd
      rcases hd with rfl | rfl | rfl | rfl | rfl
      · exact ⟨_, rfl, by omega, by omega⟩
      · exact ⟨_, rfl, by omega, by omega⟩
      · exact ⟨_, rfl, by omega, by omega⟩
      · exact ⟨_, rfl, by omega, by omega⟩
      · exact ⟨_, rfl, by omega, by omega⟩
    obtain ⟨t, rfl, t1, t2⟩ := hd
    simp
    refine ⟨mulOk_l (by omega) (by omega), ?_⟩
    refine take_run hs4 (by decide) (by decide) fun st5 v5 hs5 l5 u5 => ?_
    simp
    refine take_run hs5 (by decide) (by decide) fun st6 v6 hs6 l6 u6 => ?_
    simp
    refine pick_run hs6 (by simp) (by simp) fun st7 d hs7 hd => ?_
    have hd : ∃ x : Int, d = .int x ∧ -1000 ≤ x ∧ x ≤ 1000 ∧ x ≠ 0 := by
      simp at hd
      rcases hd with rfl | rfl | rfl | rfl | rfl | rfl
      · exact ⟨_, rfl, by omega, by omega, by omega⟩
      · exact ⟨_, rfl, by omega, by omega, by omega⟩
      · exact ⟨_, rfl, by omega, by omega, by omega⟩
      · exact ⟨_, rfl, by omega, by omega, by omega⟩
      · exact ⟨_, rfl, by omega, by omega, by omega⟩
      · exact ⟨_, rfl, by omega, by omega, by omega⟩
    obtain ⟨b, rfl, w1, w2, w0⟩ := hd
    simp
    refine ⟨mulOk_l (by omega) (by omega), ?_⟩
    have m1 : x.natAbs < 2 ^ 6 := by omega
    have m2 : (x * t).natAbs < 2 ^ 6000 := Nat.lt_of_lt_of_le (mul_bd m1 (show t.natAbs < 2 ^ 20 by omega)) (Nat.pow_le_pow_right (by decide) (by decide))
    have m3 : (x * b).natAbs < 2 ^ 6000 := Nat.lt_of_lt_of_le (mul_bd m1 (show b.natAbs < 2 ^ 20 by omega)) (Nat.pow_le_pow_right (by decide) (by decide))
    have m0 : x * b ≠ 0 := Int.mul_ne_zero (by omega) w0
    refine lfrac_run (N := 6000) (by omega) m2 m3 m0 ?_
    simp
    refine DL.fraction_run (g := 0) rfl rfl (N := 6000) (by omega) m2 m3 m0 ?_
    simp
    refine same_2 ?_
    simp
    refine DL.fraction_run (g := 0) rfl rfl (N := 6000) (by omega) m2 m3 m0 ?_
    simp
    refine same_2 ?_
    simp
    exact hs7
  · obtain ⟨st, e1, e2, e3, e4, e5, hs, rfl⟩ := hh
    simp
    exact q _ hs
theorem pair_run {M N : Nat} {p q r s : Int} (f : Fr M p q) (g : Fr N r s) (hM : M ≤ 1300) (hN : N ≤ 1300) (w : Q (.val (.bl true), [.un, .un])) : Post (callF P (n + 4) 22 [.val (fr p q), .val (fr r s)]) Q := by
  rw [post_fn (fd := d22.fd) rfl]
  simp [d22, b22, DL.DefI.fd]
  refine added_run f g (by omega) (fun k => ?_)
  simp
  refine lsum_run f g (by omega) ?_
  simp
  refine same_2 ?_
  simp
  refine added_run f g (by omega) (fun k => ?_)
  simp
  refine lsum_run f g (by omega) ?_
  simp
  refine same_2 ?_
  simp
  refine taken_run f g (by omega) (fun k => ?_)
  simp
  refine lgap_run f g (by omega) ?_
  simp
  refine same_2 ?_
  simp
  refine taken_run f g (by omega) (fun k => ?_)
  simp
  refine lgap_run f g (by omega) ?_
  simp
  refine same_2 ?_
  simp
  refine mult_run f g (by omega) (fun k => ?_)
  simp
  refine lprod_run f g (by omega) ?_
  simp
  refine same_2 ?_
  simp
  refine mult_run f g (by omega) (fun k => ?_)
  simp
  refine lprod_run f g (by omega) ?_
  simp
  refine same_2 ?_
  simp
  refine less_run f g (by omega) ?_
  simp
  refine lless_run f g (by omega) ?_
  simp
  refine due_run ?_
  simp
  refine less_run f g (by omega) ?_
  simp
  refine lless_run f g (by omega) ?_
  simp
  refine due_run ?_
  simp
  refine added_run f g (by omega) (fun k => ?_)
  have e1 := FR.cross (p * s + r * q) (q * s)
  generalize FR.nT (p * s + r * q) (q * s) = a at k e1 ⊢
  generalize FR.nB (p * s + r * q) (q * s) = b at k e1 ⊢
  simp
  refine taken_run k g (by omega) (fun k2 => ?_)
  have o := FR.own f.pos f.cop (t := a * s - r * b) (b := b * s) (Int.ne_of_gt (Int.mul_pos k.pos g.pos)) (by
    calc p * (b * s) = (p * s + r * q) * b - r * q * b := by rw [Int.add_mul, Int.add_sub_cancel, Int.mul_assoc p s b, Int.mul_comm s b]
      _ = a * (q * s) - r * q * b := by rw [e1]
      _ = (a * s - r * b) * q := by rw [Int.sub_mul, Int.mul_assoc a s q, Int.mul_comm s q, Int.mul_right_comm r b q])
  rw [o.1, o.2]
  simp
  refine same_2 ?_
  simp
  refine less_run f f (by omega) ?_
  simp
  refine due_run ?_
  simp
  (first | refine If.hh (fun r0 => ?_) (fun r0 => ?_) | refine If.ha (fun r0 => ?_) (fun r0 => ?_) | refine If.ah (fun r0 => ?_) (fun r0 => ?_) | refine If.aa (fun r0 => ?_) (fun r0 => ?_))
  · simp
    exact w
  · have r0 : r ≠ 0 := by simpa using r0
    simp
    refine div_run f g r0 (by omega) (fun k => ?_)
    simp
    refine lover_run f g r0 (by omega) ?_
    simp
    refine same_2 ?_
    simp
    refine div_run f g r0 (by omega) (fun k => ?_)
    simp
    refine lover_run f g r0 (by omega) ?_
    simp
    refine same_2 ?_
    simp
    refine mult_run f g (by omega) (fun k3 => ?_)
    have e2 := FR.cross (p * r) (q * s)
    generalize FR.nT (p * r) (q * s) = a2 at k3 e2 ⊢
    generalize FR.nB (p * r) (q * s) = b2 at k3 e2 ⊢
    simp
    refine div_run k3 g r0 (by omega) (fun k4 => ?_)
    have o2 := FR.own f.pos f.cop (t := a2 * s) (b := b2 * r) (Int.mul_ne_zero (Int.ne_of_gt k3.pos) r0) (by
      calc p * (b2 * r) = p * r * b2 := by rw [Int.mul_comm b2 r, Int.mul_assoc]
        _ = a2 * (q * s) := e2.symm
        _ = a2 * s * q := by rw [Int.mul_comm q s, Int.mul_assoc])
    rw [o2.1, o2.2]
    simp
    refine same_2 ?_
    simp
    exact w
theorem long_run {M : Nat} {p q : Int} (f : Fr M p q) (hM : M ≤ 1000) (w : Q (.val (.bl true), [.un])) : Post (callF P (n + 4) 23 [.val (fr p q)]) Q := by
  rw [post_fn (fd := d23.fd) rfl]
  simp [d23, b23, DL.DefI.fd]
  refine ⟨mulOk_w f.num f.den (by omega), ?_⟩
  have q7 : 0 < q + 7 := by have := f.pos; omega
  have t1 : (p * q + 1).natAbs < 2 ^ (M + M + 4) := by
    have h := mul_bd f.num f.den
    rw [Nat.pow_add 2 (M + M) 4]
    omega
  have t2 : (q + 7).natAbs < 2 ^ (M + M + 4) := by
    have h1 := f.den
    have h2 : 2 ^ M ≤ 2 ^ (M + M + 3) := Nat.pow_le_pow_right (by decide) (by omega)
    have h3 : 2 ^ 3 ≤ 2 ^ (M + M + 3) := Nat.pow_le_pow_right (by decide) (by omega)
    rw [show M + M + 4 = (M + M + 3) + 1 by omega, Nat.pow_succ]
    omega
  have n1 : (-(p * q + 1)).natAbs < 2 ^ (M + M + 4) := by simpa using t1
  have n2 : (-(q + 7)).natAbs < 2 ^ (M + M + 4) := by simpa using t2
  generalize p * q + 1 = t at t1 n1 ⊢
  generalize q + 7 = b at t2 n2 q7 ⊢
  have b0 : b ≠ 0 := Int.ne_of_gt q7
  refine lfrac_run (N := M + M + 4) (by omega) t1 t2 b0 ?_
  have F : Fr (M + M + 4) (FR.nT t b) (FR.nB t b) := .of t1 t2 b0
  have G : Fr (M + M + 4) 1 b := ⟨q7, by simp, Nat.one_lt_two_pow (by omega), t2⟩
  simp
  refine DL.fraction_run (g := 0) rfl rfl (N := M + M + 4) (by omega) t1 t2 b0 ?_
  simp
  refine same_2 ?_
  simp
  refine DL.fraction_run (g := 0) rfl rfl (N := M + M + 4) (by omega) t1 n2 (by omega) ?_
  simp
  refine lfrac_run (N := M + M + 4) (by omega) n1 t2 b0 ?_
  have e := FR.same (t := t) (b := -b) (t' := -t) (b' := b) (by omega) b0 (by rw [Int.neg_mul_neg])
  rw [e.1, e.2]
  simp
  refine same_2 ?_
  simp
  refine DL.fraction_run (g := 0) rfl rfl (N := M + M + 4) (by omega) G.num t2 b0 ?_
  have o := FR.own G.pos G.cop (t := 1) (b := b) b0 rfl
  rw [o.1, o.2]
  generalize FR.nT t b = x at F ⊢
  generalize FR.nB t b = y at F ⊢
  simp
  refine added_run F G (by omega) fun k => ?_
  have e1 := FR.cross (x * b + 1 * y) (y * b)
  have lt : x * FR.nB (x * b + 1 * y) (y * b) < FR.nT (x * b + 1 * y) (y * b) * y := by
    generalize FR.nT (x * b + 1 * y) (y * b) = u at e1 k ⊢
    generalize FR.nB (x * b + 1 * y) (y * b) = v at e1 k ⊢
    refine Int.lt_of_mul_lt_mul_right (a := b) ?_ (Int.le_of_lt q7)
    have : u * y * b = x * v * b + y * v := by
      rw [Int.mul_assoc u y b, e1, Int.one_mul, Int.add_mul, Int.mul_right_comm x b v]
    rw [this]
    have := Int.mul_pos F.pos k.pos
    omega
  simp
  refine lsum_run F G (by omega) ?_
  simp at lt ⊢
  refine same_2 ?_
  simp at k ⊢
  refine less_run F k (by omega) ?_
  rw [decide_eq_true lt]
  simp
  refine due_run ?_
  simp
  refine less_run k F (by omega) ?_
  rw [decide_eq_false (Int.lt_asymm lt)]
  simp
  refine due_run ?_
  simp
  refine less_run F F (by omega) ?_
  simp
  refine due_run ?_
  simp
  exact w
end
end K01

set_option Elab.async false
set_option linter.all false
set_option maxRecDepth 100000
set_option maxHeartbeats 4000000
set_option exponentiation.threshold 20000
namespace K01
open PySem PySem.Spec PyProof.Rows L2
open DL (If Post On Bl Sl D callF post_fn mulOk mulOk_r mulOk_l mulOk_w fmod_pos log_small)
def depth : Nat := 9
theorem law_holds (ns : List Int) (hl : ns.length ≤ 63) : callF P depth 24 [.val (.lst (ns.map D.int))] = .ok (.val (.bl true), [.un]) := by
  refine Post.eq ?_
  unfold depth
  rw [post_fn (fd := d24.fd) rfl]
  simp [d24, b24, DL.DefI.fd]
  refine start_run hl fun st hs => ?_
  simp
  refine wholes_run hs fun st hs => ?_
  simp
  refine ⟨DL.rgOk_ok (by omega) (by omega) (by omega) (by omega), ?_⟩
  generalize DL.rgD 0 8 = xs
  refine DL.forL_inv (fun ds l => ∃ st' a b e3 e4 e5 e6, St st' ∧ Fr 61 a b ∧ l = [.val (.lst (ns.map D.int)), .own st', .val (fr a b), e3, e4, e5, e6]) ⟨st, 1, 1, _, _, _, _, hs, ⟨by decide, by decide, by decide, by decide⟩, rfl⟩ (fun d ds l hh => ?_) (fun l hh => ?_)
  · obtain ⟨st, a, b, e3, e4, e5, e6, hs, hf, rfl⟩ := hh
    simp
    refine number_run hs fun st p q hs f => ?_
    simp
    refine number_run hs fun st p1 q1 hs f1 => ?_
    simp
    refine number_run hs fun st p2 q2 hs f2 => ?_
    simp
    refine pick_run hs (by simp) (by simp) fun st d hs hd => ?_
    have hd : ∃ r s, d = fr r s ∧ Fr 20 r s := by
      simp at hd
      rcases hd with rfl | rfl | rfl | rfl
      · exact ⟨_, _, rfl, f1⟩
      · exact ⟨_, _, rfl, f2⟩
      · exact ⟨_, _, rfl, f⟩
      · exact ⟨_, _, rfl, f.pos, by rw [Int.neg_gcd]; exact f.cop, by simpa using f.num, f.den⟩
    obtain ⟨r, s, rfl, g⟩ := hd
    simp
    refine pair_run f g (by decide) (by decide) ?_
    simp
    refine pair_run g f (by decide) (by decide) ?_
    simp
    refine mult_run f g (by decide) fun k => ?_
    simp
    refine added_run k f (by decide) fun k2 => ?_
    simp
    refine lprod_run f g (by decide) ?_
    simp
    refine lsum_run k f (by decide) ?_
    simp
    refine same_2 ?_
    simp
    refine pair_run k2 g (by decide) (by decide) ?_
    simp
    refine pair_run f k2 (by decide) (by decide) ?_
    simp
    refine ⟨_, hs, _, _, k2, ?_⟩
    simp
  · obtain ⟨st, a, b, e3, e4, e5, e6, hs, hf, rfl⟩ := hh
    simp
    refine ⟨DL.rgOk_ok (by omega) (by omega) (by omega) (by omega), ?_⟩
    have e := DL.rgD_length 0 3
    generalize DL.rgD 0 3 = ys at e ⊢
    refine DL.forL_inv (fun ds l => ∃ M st' a b e3 e4 e5 e6, (M + 21) * 2 ^ ds.length ≤ 656 ∧ St st' ∧ Fr M a b ∧ l = [.val (.lst (ns.map D.int)), .own st', .val (fr a b), e3, e4, e5, e6]) ⟨61, st, a, b, _, _, _, _, by rw [e]; decide, hs, hf, rfl⟩ (fun d ds l hh => ?_) (fun l hh => ?_)
    · obtain ⟨M, st, a, b, e3, e4, e5, e6, hM, hs, hf, rfl⟩ := hh
      rw [List.length_cons, Nat.pow_succ] at hM
      have hM' : M ≤ 635 := by
        have : 0 < 2 ^ ds.length := Nat.pow_pos (by decide)
        have : (M + 21) * 1 ≤ (M + 21) * (2 ^ ds.length * 2) := Nat.mul_le_mul_left _ (by omega)
        omega
      simp
      refine mult_run hf hf (by omega) fun k => ?_
      simp
      refine number_run hs fun st p q hs f => ?_
      simp
      refine added_run k f (by omega) fun k2 => ?_
      simp
      refine ⟨M + M + 20 + 1, ?_, _, hs, _, _, k2, rfl, rfl, rfl⟩
      rw [show M + M + 20 + 1 + 21 = (M + 21) * 2 by omega, Nat.mul_assoc, Nat.mul_comm 2]
      exact hM
    · obtain ⟨M, st, a, b, e3, e4, e5, e6, hM, hs, hf, rfl⟩ := hh
      have hM : M ≤ 635 := by simp at hM; omega
      simp
      have fin : ∀ {x y : Int} {e5 e6 : Sl}, Fr 1300 x y → Post (DL.exB (callF P 8) [.ret ((DL.E.call 22 none [0, 1] [DL.E.var 2, DL.E.var 4]).and ((DL.E.call 22 none [0, 1] [DL.E.var 4, DL.E.var 2]).and (DL.E.call 23 none [0] [DL.E.var 2])))] [.val (.lst (ns.map D.int)), .own st, .val (fr a b), e3, .val (fr x y), e5, e6]) (DL.endQ 1 none fun b => b = (Sl.val (D.bl true), [Sl.un])) := fun {x y e5 e6} g => by
        simp
        refine pair_run hf g (by omega) (by decide) ?_
        simp
        refine pair_run g hf (by decide) (by omega) ?_
        simp
        refine long_run hf (by omega) ?_
        simp
      (first | refine If.hh (fun h0 => ?_) (fun h0 => ?_) | refine If.ha (fun h0 => ?_) (fun h0 => ?_) | refine If.ah (fun h0 => ?_) (fun h0 => ?_) | refine If.aa (fun h0 => ?_) (fun h0 => ?_))
      · have h0 : a ≠ 0 := by simpa using h0
        simp
        have o : Fr 1 1 1 := ⟨by decide, by decide, by decide, by decide⟩
        refine div_run (M := 1) (N := M) o hf h0 (by omega) fun k => ?_
        simp at k ⊢
        refine added_run (M := M) (N := 1 + M) hf k (by omega) fun k2 => ?_
        simpa using fin (e5 := e5) (e6 := e6) (k2.mono (by omega))
      · simpa using fin (e5 := e5) (e6 := e6) (hf.mono (by omega))
end K01

set_option Elab.async false
set_option linter.all false
set_option maxRecDepth 100000
set_option maxHeartbeats 4000000
namespace K01
open PySem PySem.Spec PyProof.Rows L2
end K01
open PySem PySem.W PyProof.Rows
set_option maxHeartbeats 0 in
theorem PySem.Challenge.cw_ringsigns_k01_fractions_holds : PySem.Challenge.rw_ringsigns_k01_fractions.Holds := by
  w_on; o_law; k_head; (case hw => w_witness2)
  k_fill
  refine L2.walk_of (l := PySem.Challenge.rw_ringsigns_k01_fractions) (n := 63) (k := K01.depth) (x := "script") (CX := fun w => L2.CX PySem.Challenge.rw_ringsigns_k01_fractions.prog w) (sp := fun w => DL.spOf _ DL.xi0 1 none (DL.callF (DL.progOf K01.dfs) K01.depth 24)) rfl (by decide) rfl ⟨rfl, by decide, by decide⟩ (fun w h Y => PySem.W.kIn_of Y) ?F (fun _ _ a ns hl _ hS => DL.law_sp hS (K01.law_holds ns hl) rfl) (fun _ _ _ _ _ h => DL.cx_none h)
  case F =>
    intro w mg fa h KX G hmg
    refine' K01.all_mk KX G hmg K01.depth ?a0 ?l0 ?c0 ?k0 ?a1 ?l1 ?c1 ?k1 ?a2 ?l2 ?c2 ?k2 ?a3 ?l3 ?c3 ?k3 ?a4 ?l4 ?c4 ?k4 ?a5 ?l5 ?c5 ?k5 ?a6 ?l6 ?c6 ?k6 ?a7 ?l7 ?c7 ?k7 ?a8 ?l8 ?c8 ?k8 ?a9 ?l9 ?c9 ?k9 ?a10 ?l10 ?c10 ?k10 ?a11 ?l11 ?c11 ?k11 ?a12 ?l12 ?c12 ?k12 ?a13 ?l13 ?c13 ?k13 ?a14 ?l14 ?c14 ?k14 ?a15 ?l15 ?c15 ?k15 ?a16 ?l16 ?c16 ?k16 ?a17 ?l17 ?c17 ?k17 ?a18 ?l18 ?c18 ?k18 ?a19 ?l19 ?c19 ?k19 ?a20 ?l20 ?c20 ?k20 ?a21 ?l21 ?c21 ?k21 ?a22 ?l22 ?c22 ?k22 ?a23 ?l23 ?c23 ?k23 ?a24 ?l24 ?c24 ?k24 ?z0 ?z1 ?z2 ?z3 ?z4 ?z5 ?z6 ?z7 ?z8
    (case a0 => k_is); (case l0 => k_is); (case c0 => k_is); (case k0 => k_is); (case a1 => k_is); (case l1 => k_is); (case c1 => k_is); (case k1 => k_is); (case a2 => k_is); (case l2 => k_is); (case c2 => k_is); (case k2 => k_is); (case a3 => k_is); (case l3 => k_is); (case c3 => k_is); (case k3 => k_is); (case a4 => k_is); (case l4 => k_is); (case c4 => k_is); (case k4 => k_is); (case a5 => k_is); (case l5 => k_is); (case c5 => k_is); (case k5 => k_is); (case a6 => k_is); (case l6 => k_is); (case c6 => k_is); (case k6 => k_is); (case a7 => k_is); (case l7 => k_is); (case c7 => k_is); (case k7 => k_is); (case a8 => k_is); (case l8 => k_is); (case c8 => k_is); (case k8 => k_is); (case a9 => k_is); (case l9 => k_is); (case c9 => k_is); (case k9 => k_is); (case a10 => k_is); (case l10 => k_is); (case c10 => k_is); (case k10 => k_is); (case a11 => k_is); (case l11 => k_is); (case c11 => k_is); (case k11 => k_is); (case a12 => k_is); (case l12 => k_is); (case c12 => k_is); (case k12 => k_is); (case a13 => k_is); (case l13 => k_is); (case c13 => k_is); (case k13 => k_is); (case a14 => k_is); (case l14 => k_is); (case c14 => k_is); (case k14 => k_is); (case a15 => k_is); (case l15 => k_is); (case c15 => k_is); (case k15 => k_is); (case a16 => k_is); (case l16 => k_is); (case c16 => k_is); (case k16 => k_is); (case a17 => k_is); (case l17 => k_is); (case c17 => k_is); (case k17 => k_is); (case a18 => k_is); (case l18 => k_is); (case c18 => k_is); (case k18 => k_is); (case a19 => k_is); (case l19 => k_is); (case c19 => k_is); (case k19 => k_is); (case a20 => k_is); (case l20 => k_is); (case c20 => k_is); (case k20 => k_is); (case a21 => k_is); (case l21 => k_is); (case c21 => k_is); (case k21 => k_is); (case a22 => k_is); (case l22 => k_is); (case c22 => k_is); (case k22 => k_is); (case a23 => k_is); (case l23 => k_is); (case c23 => k_is); (case k23 => k_is); (case a24 => k_is); (case l24 => k_is); (case c24 => k_is); (case k24 => k_is); (case z0 => k_is); (case z1 => k_is); (case z2 => k_is); (case z3 => k_is); (case z4 => k_is); (case z5 => k_is); (case z6 => k_is); (case z7 => k_is); (case z8 => k_is)
