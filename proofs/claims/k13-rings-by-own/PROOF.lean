import PyProof.Rows.All
import Wide.All
import OpenK.AllK
import Wide.FinOn
import HandS.ForMost
import HandS.Wide
import HandS.Style
import HandS.TupAny
import HandS.Conv
import HandS.IsInst
import HandS.AnyAll
import KE.SortData
import HandS.TupMul
import HandS.Deep
import HandS.WordsExc
import HandS.Comp
import HandS.GenList
import PyProof.TupleOfGen
import PyProof.CollectWalk
import HandS.More
import KE.KRevSl
import HandS.Zip
import HandS.Rev
import HandS.HeadHook4
import HandS.HeadWalk
import HandS.Head2
import HandS.EndTab
import PySem.Challenge.RW_ringsigns_k13_rings_by_own
set_option Elab.async false
set_option linter.all false
set_option maxRecDepth 100000
namespace DL
open PySem PySem.Spec PyProof.Rows L2

/-! ## data -/
inductive D where
  | non | bl (b : Bool) | int (i : Int) | str (x : Str) | tup (xs : List D) | lst (xs : List D)
  deriving Inhabited
/-- an item of a list that has lists within that are owned, too -/
inductive Cl where
  | v (d : D) | o (xs : List D)
  deriving Inhabited
/-- a slot: unset, a value, a list that this frame owns, one with own lists within -/
inductive Sl where
  | un | val (d : D) | own (xs : List D) | nst (cs : List Cl)
  deriving Inhabited
def Cl.d : Cl → D
  | .v d => d
  | .o ds => .lst ds
@[simp] theorem Cl.d_v (d : D) : (Cl.v d).d = d := rfl
@[simp] theorem Cl.d_o (ds : List D) : (Cl.o ds).d = .lst ds := rfl
abbrev Loc := List Sl
/-- an exception: its class, its attributes -/
structure Exn where
  c : Nat
  fs : List (Nat × D)
inductive R (α : Type) where
  | ok (a : α) | exc (x : Exn) (l : Loc) | bad
@[reducible] def R.bind {α β : Type} (r : R α) (f : α → R β) : R β := match r with
  | .ok a => f a
  | .exc x l => .exc x l
  | .bad => .bad
@[simp] theorem R.bind_ok {α β : Type} (a : α) (f : α → R β) : (R.ok a).bind f = f a := rfl
@[simp] theorem R.bind_exc {α β : Type} (x : Exn) (l : Loc) (f : α → R β) : (R.exc x l : R α).bind f = .exc x l := rfl
@[simp] theorem R.bind_bad {α β : Type} (f : α → R β) : (R.bad : R α).bind f = .bad := rfl

/-! ## a value in the abstract heap -/
def SeqL (K : PySem.W.Frag) (F : Addr → Prop) (H : Hp) (a : Addr) (xs : List V) : Prop :=
  (Rd H a (.lst xs) ∧ ¬ F a) ∨
    ∃ (o : Obj) (its : Array Value) (n : Nat), K.lookup a = some o ∧ o.cls = .type "list" ∧ o.dict = none ∧ o.data = .seq its n ∧ its.size ≤ sizeLine ∧ Vals xs its.toList
def SeqT (K : PySem.W.Frag) (F : Addr → Prop) (H : Hp) (a : Addr) (xs : List V) : Prop :=
  (Rd H a (.tup xs) ∧ ¬ F a) ∨
    ∃ (o : Obj) (its : Array Value) (n : Nat), K.lookup a = some o ∧ o.cls = .type "tuple" ∧ o.data = .seq its n ∧ its.size ≤ sizeLine ∧ Vals xs its.toList
theorem SeqL.sq {K : PySem.W.Frag} {F : Addr → Prop} {H : Hp} {a : Addr} {xs : List V} (h : SeqL K F H a xs) : SqL K H a xs := h.elim (fun x => .inl x.1) .inr
theorem SeqT.sq {K : PySem.W.Frag} {F : Addr → Prop} {H : Hp} {a : Addr} {xs : List V} (h : SeqT K F H a xs) : SqT K H a xs := h.elim (fun x => .inl x.1) .inr

mutual
/-- v is the value d; no list within it stands at a place of F -/
def Rep (K : PySem.W.Frag) (F : Addr → Prop) (H : Hp) : V → D → Prop
  | v, .non => v = .non
  | v, .bl b => v = .bl b
  | v, .int i => v = .int i
  | v, .str x => v = .str x
  | v, .tup ds => ∃ a vs, v = .ref a ∧ SeqT K F H a vs ∧ RepL K F H vs ds
  | v, .lst ds => ∃ a vs, v = .ref a ∧ SeqL K F H a vs ∧ RepL K F H vs ds
def RepL (K : PySem.W.Frag) (F : Addr → Prop) (H : Hp) : List V → List D → Prop
  | vs, [] => vs = []
  | vs, d :: ds => ∃ v r, vs = v :: r ∧ Rep K F H v d ∧ RepL K F H r ds
end

section
variable {K : PySem.W.Frag} {F F' : Addr → Prop} {H H' : Hp} {v : V} {vs : List V}
theorem RepL.length : ∀ {ds : List D} {vs : List V}, RepL K F H vs ds → vs.length = ds.length
  | [], vs, h => by rw [RepL] at h; rw [h]; rfl
  | d :: ds, vs, h => by
    rw [RepL] at h
    obtain ⟨v, r, rfl, _, h2⟩ := h
    simp [RepL.length h2]
theorem RepL.cons {d : D} {ds : List D} (h : Rep K F H v d) (t : RepL K F H vs ds) : RepL K F H (v :: vs) (d :: ds) := by
  rw [RepL]; exact ⟨v, vs, rfl, h, t⟩
theorem RepL.nil : RepL K F H [] [] := by rw [RepL]
theorem RepL.get : ∀ {ds : List D} {vs : List V} {i : Nat} {v : V}, RepL K F H vs ds → vs[i]? = some v → ∃ d, ds[i]? = some d ∧ Rep K F H v d
  | [], vs, i, v, h, e => by rw [RepL] at h; rw [h] at e; simp at e
  | d :: ds, vs, i, v, h, e => by
    rw [RepL] at h
    obtain ⟨w, r, rfl, h1, h2⟩ := h
    cases i with
    | zero => simp at e; subst e; exact ⟨d, rfl, h1⟩
    | succ i => simp at e; obtain ⟨d', e', q⟩ := RepL.get h2 e; exact ⟨d', by simpa using e', q⟩
theorem RepL.get' {ds : List D} {i : Nat} {d : D} (h : RepL K F H vs ds) (e : ds[i]? = some d) : ∃ v, vs[i]? = some v ∧ Rep K F H v d := by
  have hi : i < ds.length := (List.getElem?_eq_some_iff.mp e).1
  have hv : i < vs.length := by rw [h.length]; exact hi
  obtain ⟨d', e', q⟩ := h.get (List.getElem?_eq_getElem hv)
  rw [e] at e'; cases e'
  exact ⟨_, List.getElem?_eq_getElem hv, q⟩
theorem RepL.append : ∀ {ds es : List D} {vs ws : List V}, RepL K F H vs ds → RepL K F H ws es → RepL K F H (vs ++ ws) (ds ++ es)
  | [], es, vs, ws, h, q => by rw [RepL] at h; subst h; exact q
  | d :: ds, es, vs, ws, h, q => by
    rw [RepL] at h
    obtain ⟨v, r, rfl, h1, h2⟩ := h
    exact RepL.cons h1 (RepL.append h2 q)
theorem RepL.take : ∀ {ds : List D} {vs : List V} (n : Nat), RepL K F H vs ds → RepL K F H (vs.take n) (ds.take n)
  | _, _, 0, _ => by simpa using RepL.nil
  | [], vs, n + 1, h => by rw [RepL] at h; subst h; simpa using RepL.nil
  | d :: ds, vs, n + 1, h => by
    rw [RepL] at h
    obtain ⟨v, r, rfl, h1, h2⟩ := h
    exact RepL.cons h1 (RepL.take n h2)
theorem RepL.drop : ∀ {ds : List D} {vs : List V} (n : Nat), RepL K F H vs ds → RepL K F H (vs.drop n) (ds.drop n)
  | _, _, 0, h => h
  | [], vs, n + 1, h => by rw [RepL] at h; subst h; simpa using RepL.nil
  | d :: ds, vs, n + 1, h => by
    rw [RepL] at h
    obtain ⟨v, r, rfl, h1, h2⟩ := h
    exact RepL.drop n h2
theorem RepL.set : ∀ {ds : List D} {vs : List V} {v : V} {d : D} (n : Nat), Rep K F H v d → RepL K F H vs ds → RepL K F H (vs.set n v) (ds.set n d)
  | [], vs, v, d, n, q, h => by rw [RepL] at h; subst h; simpa using RepL.nil
  | e :: ds, vs, v, d, 0, q, h => by
    rw [RepL] at h
    obtain ⟨w, r, rfl, h1, h2⟩ := h
    exact RepL.cons q h2
  | e :: ds, vs, v, d, n + 1, q, h => by
    rw [RepL] at h
    obtain ⟨w, r, rfl, h1, h2⟩ := h
    exact RepL.cons h1 (RepL.set n q h2)
theorem RepL.reverse : ∀ {ds : List D} {vs : List V}, RepL K F H vs ds → RepL K F H vs.reverse ds.reverse
  | [], vs, h => by rw [RepL] at h; subst h; simpa using RepL.nil
  | d :: ds, vs, h => by
    rw [RepL] at h
    obtain ⟨v, r, rfl, h1, h2⟩ := h
    simp only [List.reverse_cons]
    exact RepL.append (RepL.reverse h2) (RepL.cons h1 RepL.nil)

/-- no table -/
abbrev NT (u : HO) : Prop := ∀ ps, u ≠ .tbl ps
theorem SeqL.moveT {a : Addr} {xs : List V} (h : SeqL K F H a xs) (e : ∀ b u, ¬ F b → H b = some u → NT u → H' b = some u) (g : ∀ b, F' b → F b ∨ H b = none) : SeqL K F' H' a xs := by
  rcases h with ⟨h | ⟨o, h⟩, n⟩ | h
  · refine .inl ⟨.inl (e _ _ n h fun _ z => nomatch z), fun z => ?_⟩
    rcases g a z with q | q
    · exact n q
    · rw [h] at q; cases q
  · refine .inl ⟨.inr ⟨o, e _ _ n h fun _ z => nomatch z⟩, fun z => ?_⟩
    rcases g a z with q | q
    · exact n q
    · rw [h] at q; cases q
  · exact .inr h
theorem SeqT.moveT {a : Addr} {xs : List V} (h : SeqT K F H a xs) (e : ∀ b u, ¬ F b → H b = some u → NT u → H' b = some u) (g : ∀ b, F' b → F b ∨ H b = none) : SeqT K F' H' a xs := by
  rcases h with ⟨h | ⟨o, h⟩, n⟩ | h
  · refine .inl ⟨.inl (e _ _ n h fun _ z => nomatch z), fun z => ?_⟩
    rcases g a z with q | q
    · exact n q
    · rw [h] at q; cases q
  · refine .inl ⟨.inr ⟨o, e _ _ n h fun _ z => nomatch z⟩, fun z => ?_⟩
    rcases g a z with q | q
    · exact n q
    · rw [h] at q; cases q
  · exact .inr h
mutual
theorem Rep.moveT (e : ∀ b u, ¬ F b → H b = some u → NT u → H' b = some u) (g : ∀ b, F' b → F b ∨ H b = none) : ∀ (d : D) (v : V), Rep K F H v d → Rep K F' H' v d
  | .non, v, h => by rw [Rep] at h ⊢; exact h
  | .bl _, v, h => by rw [Rep] at h ⊢; exact h
  | .int _, v, h => by rw [Rep] at h ⊢; exact h
  | .str _, v, h => by rw [Rep] at h ⊢; exact h
  | .tup ds, v, h => by
    rw [Rep] at h ⊢
    obtain ⟨a, vs, h1, h2, h3⟩ := h
    exact ⟨a, vs, h1, h2.moveT e g, RepL.moveT e g ds vs h3⟩
  | .lst ds, v, h => by
    rw [Rep] at h ⊢
    obtain ⟨a, vs, h1, h2, h3⟩ := h
    exact ⟨a, vs, h1, h2.moveT e g, RepL.moveT e g ds vs h3⟩
theorem RepL.moveT (e : ∀ b u, ¬ F b → H b = some u → NT u → H' b = some u) (g : ∀ b, F' b → F b ∨ H b = none) : ∀ (ds : List D) (vs : List V), RepL K F H vs ds → RepL K F' H' vs ds
  | [], vs, h => by rw [RepL] at h ⊢; exact h
  | d :: ds, vs, h => by
    rw [RepL] at h ⊢
    obtain ⟨v, r, h1, h2, h3⟩ := h
    exact ⟨v, r, h1, Rep.moveT e g d v h2, RepL.moveT e g ds r h3⟩
end
theorem SeqL.move {a : Addr} {xs : List V} (h : SeqL K F H a xs) (e : ∀ b u, ¬ F b → H b = some u → H' b = some u) (g : ∀ b, F' b → F b ∨ H b = none) : SeqL K F' H' a xs := h.moveT (fun b u n q _ => e b u n q) g
theorem SeqT.move {a : Addr} {xs : List V} (h : SeqT K F H a xs) (e : ∀ b u, ¬ F b → H b = some u → H' b = some u) (g : ∀ b, F' b → F b ∨ H b = none) : SeqT K F' H' a xs := h.moveT (fun b u n q _ => e b u n q) g
theorem Rep.move {d : D} {v : V} (h : Rep K F H v d) (e : ∀ b u, ¬ F b → H b = some u → H' b = some u) (g : ∀ b, F' b → F b ∨ H b = none) : Rep K F' H' v d := Rep.moveT (fun b u n q _ => e b u n q) g d v h
theorem RepL.move {ds : List D} {vs : List V} (h : RepL K F H vs ds) (e : ∀ b u, ¬ F b → H b = some u → H' b = some u) (g : ∀ b, F' b → F b ∨ H b = none) : RepL K F' H' vs ds := RepL.moveT (fun b u n q _ => e b u n q) g ds vs h
theorem Rep.mono {d : D} (h : Rep K F H v d) (g : ∀ b, F' b → F b) : Rep K F' H v d := h.move (fun _ _ _ q => q) (fun b z => .inl (g b z))
theorem RepL.mono {ds : List D} (h : RepL K F H vs ds) (g : ∀ b, F' b → F b) : RepL K F' H vs ds := h.move (fun _ _ _ q => q) (fun b z => .inl (g b z))
end

/-! ## how a heap goes on -/
abbrev Ad := Addr → Prop
/-- M: what may be changed -/
structure Step (M : Ad) (H : Hp) (M' : Ad) (H' : Hp) : Prop where
  ext : ∀ b u, ¬ M b → H b = some u → NT u → H' b = some u
  non : ∀ b, H' b = none → H b = none
  grow : ∀ b, M' b → M b ∨ H b = none
  tab : ∀ P, GxR.TabG H P → GxR.TabG H' P
section
variable {M M' M1 M2 : Ad} {H H' H1 H2 : Hp}
theorem Step.refl : Step M H M H := ⟨fun _ _ _ q _ => q, fun _ q => q, fun _ z => .inl z, fun _ z => z⟩
theorem Step.lst {M M' : Ad} {H H' : Hp} {a : Addr} {ws : List V} (s : Step M H M' H') (n : ¬ M a) (e : H a = some (.lst ws)) : H' a = some (.lst ws) := s.ext a _ n e fun _ z => nomatch z
theorem tab_upd {H : Hp} {p P : Addr} {o : HO} (h : ∀ ps, H p ≠ some (.tbl ps)) (t : GxR.TabG H P) : GxR.TabG (upd H p o) P := by
  obtain ⟨ps, e, k⟩ := t
  exact ⟨ps, by rw [upd_ne (fun z => h ps (by rw [← z]; exact e))]; exact e, k⟩
theorem Step.trans (a : Step M H M1 H1) (b : Step M1 H1 M2 H2) : Step M H M2 H2 where
  ext := fun c u n e t => b.ext c u (fun z => (a.grow c z).elim n (fun q => by rw [e] at q; cases q)) (a.ext c u n e t) t
  tab := fun P z => b.tab P (a.tab P z)
  non := fun c e => a.non c (b.non c e)
  grow := fun c z => (b.grow c z).elim (a.grow c) (fun q => .inr (a.non c q))
theorem Step.less (a : Step M H M1 H1) (h : ∀ b, M2 b → M1 b) : Step M H M2 H1 := ⟨a.ext, a.non, fun b z => a.grow b (h b z), a.tab⟩
/-- a new object -/
theorem Step.new {p : Addr} {o : HO} (n : H p = none) : Step M H M (upd H p o) where
  ext := fun b u _ e _ => by rw [upd_ne (ne_of_none e n)]; exact e
  tab := fun P => tab_upd (fun ps z => by rw [n] at z; cases z)
  non := fun b e => by
    by_cases hb : b = p
    · rw [hb, upd_same] at e; cases e
    · rw [upd_ne hb] at e; exact e
  grow := fun b z => .inl z
/-- .. that may be changed from now on -/
theorem Step.newM {p : Addr} {o : HO} (n : H p = none) : Step M H (fun b => M b ∨ b = p) (upd H p o) where
  ext := (Step.new (M := M) n).ext
  tab := (Step.new (M := M) n).tab
  non := (Step.new (M := M) (o := o) n).non
  grow := fun b z => z.elim .inl (fun e => .inr (by rw [e]; exact n))
/-- an own object is changed -/
theorem Step.put {p : Addr} {o : HO} {us : List V} (m : M p) (e : H p = some (.lst us)) : Step M H M (upd H p o) where
  tab := fun P => tab_upd (fun ps z => by rw [e] at z; cases z)
  ext := fun b w n q _ => by
    have hb : b ≠ p := fun z => n (by rw [z]; exact m)
    rw [upd_ne hb]; exact q
  non := fun b q => by
    by_cases hb : b = p
    · rw [hb, upd_same] at q; cases q
    · rw [upd_ne hb] at q; exact q
  grow := fun _ z => .inl z
end

/-- all that is forbidden to frozen lists -/
abbrev Fb (X M : Ad) : Ad := fun a => X a ∨ M a
section
variable {K : PySem.W.Frag} {X M M' : Ad} {H H' : Hp} {v : V} {vs : List V} {d : D} {ds : List D}
theorem Step.fb (s : Step M H M' H') : ∀ b, Fb X M' b → Fb X M b ∨ H b = none := fun b z => z.elim (fun x => .inl (.inl x)) (fun m => (s.grow b m).elim (fun q => .inl (.inr q)) .inr)
theorem Rep.step (s : Step M H M' H') (h : Rep K (Fb X M) H v d) : Rep K (Fb X M') H' v d := Rep.moveT (fun b u n e t => s.ext b u (fun z => n (.inr z)) e t) s.fb d v h
theorem RepL.step (s : Step M H M' H') (h : RepL K (Fb X M) H vs ds) : RepL K (Fb X M') H' vs ds := RepL.moveT (fun b u n e t => s.ext b u (fun z => n (.inr z)) e t) s.fb ds vs h
end

/-! ## the slots of a frame -/
section
variable (K : PySem.W.Frag) (X M : Ad) (H : Hp)
def RepC (v : V) : Cl → Prop
  | .v d => Rep K (Fb X M) H v d
  | .o ds => ∃ a vs, v = .ref a ∧ M a ∧ H a = some (.lst vs) ∧ RepL K (Fb X M) H vs ds
def RepCs : List V → List Cl → Prop
  | [], [] => True
  | v :: vs, c :: cs => RepC K X M H v c ∧ RepCs vs cs
  | _, _ => False
end
/-- where the inner lists stand -/
def inn1 : V → Cl → List Addr
  | .ref a, .o _ => [a]
  | _, _ => []
def inn : List V → List Cl → List Addr
  | v :: vs, c :: cs => inn1 v c ++ inn vs cs
  | _, _ => []
section
variable (K : PySem.W.Frag) (X M : Ad) (H : Hp)
def RepN (v : V) (cs : List Cl) : Prop := ∃ a vs, v = .ref a ∧ M a ∧ H a = some (.lst vs) ∧ RepCs K X M H vs cs ∧ (a :: inn vs cs).Nodup
/-- a slot's value -/
def RepS (v : V) : Sl → Prop
  | .un => False
  | .val d => Rep K (Fb X M) H v d
  | .own ds => ∃ a vs, v = .ref a ∧ M a ∧ H a = some (.lst vs) ∧ RepL K (Fb X M) H vs ds
  | .nst cs => RepN K X M H v cs
end
/-- what it owns -/
def Ows (H : Hp) (v : V) : Sl → Addr → Prop
  | .own _, a => v = .ref a
  | .nst cs, a => ∃ p vs, v = .ref p ∧ H p = some (.lst vs) ∧ a ∈ p :: inn vs cs
  | _, _ => False
/-- .. of all slots -/
def Owd (l : Loc) (σ : L2.St) (H : Hp) (a : Addr) : Prop := ∃ (i : Nat) (s : Sl) (v : V), l[i]? = some s ∧ σ[i]? = some (some v) ∧ Ows H v s a
structure RepLoc (tb : Ad) (K : PySem.W.Frag) (X M : Ad) (σ : L2.St) (H : Hp) (l : Loc) : Prop where
  len : σ.length = l.length
  slot : ∀ (i : Nat) s, l[i]? = some s → s ≠ .un → ∃ v, σ[i]? = some (some v) ∧ RepS K X M H v s
  dj : ∀ (i j : Nat) (a : Addr) s t v w, l[i]? = some s → l[j]? = some t → σ[i]? = some (some v) → σ[j]? = some (some w) → Ows H v s a → Ows H w t a → i = j
  trk : ∀ a, X a ∨ M a → ∃ vs, H a = some (.lst vs)
  dis : ∀ a, X a → ¬ M a
  tab : ∀ P, tb P → GxR.TabG H P
/-- a value, or a list of its own -/
def RepR (K : PySem.W.Frag) (X M : Ad) (σ : L2.St) (l : Loc) (H : Hp) (v : V) : Sl → Prop
  | .un => False
  | .val d => Rep K (Fb X M) H v d
  | .own ds => ∃ a vs, v = .ref a ∧ M a ∧ H a = some (.lst vs) ∧ RepL K (Fb X M) H vs ds ∧ ¬ Owd l σ H a
  | .nst cs => RepN K X M H v cs ∧ ∀ a, Ows H v (.nst cs) a → ¬ Owd l σ H a
def Sl.d : Sl → D
  | .un => .non
  | .val d => d
  | .own ds => .lst ds
  | .nst cs => .lst (cs.map Cl.d)
@[simp] theorem Sl.d_val (d : D) : (Sl.val d).d = d := rfl
@[simp] theorem Sl.d_own (ds : List D) : (Sl.own ds).d = .lst ds := rfl
@[simp] theorem Sl.d_nst (cs : List Cl) : (Sl.nst cs).d = .lst (cs.map Cl.d) := rfl

section
variable {tb : Ad} {K : PySem.W.Frag} {X X' M M' : Ad} {σ σ' : L2.St} {H H' : Hp} {l l' : Loc} {v w : V} {vs : List V} {cs : List Cl} {s : Sl}
theorem inn_M : ∀ {vs : List V} {cs : List Cl}, RepCs K X M H vs cs → ∀ a ∈ inn vs cs, M a ∧ ∃ ws, H a = some (.lst ws)
  | [], [], _, a, h => by unfold inn at h; cases h
  | v :: vs, c :: cs, r, a, h => by
    unfold inn at h
    rcases List.mem_append.mp h with h | h
    · have r1 := r.1
      cases c with
      | v d => cases v <;> (unfold inn1 at h; cases h)
      | o ds =>
        obtain ⟨b, ws, rfl, h1, h2, _⟩ := r1
        unfold inn1 at h
        rw [List.mem_singleton.mp h]
        exact ⟨h1, ws, h2⟩
    · exact inn_M r.2 a h
  | [], _ :: _, r, a, h => r.elim
  | _ :: _, [], r, a, h => r.elim
theorem RepS.ows_M (h : RepS K X M H v s) {a : Addr} (o : Ows H v s a) : M a ∧ ∃ ws, H a = some (.lst ws) := by
  cases s with
  | un => exact h.elim
  | val d => exact o.elim
  | own ds =>
    obtain ⟨b, vs, rfl, h1, h2, _⟩ := h
    have o : V.ref b = V.ref a := o
    cases o
    exact ⟨h1, vs, h2⟩
  | nst cs =>
    obtain ⟨b, vs, rfl, h1, h2, h3, _⟩ := h
    obtain ⟨p, ws, e, q1, q2⟩ := o
    cases e
    rw [h2] at q1
    cases q1
    rcases List.mem_cons.mp q2 with rfl | q2
    · exact ⟨h1, vs, h2⟩
    · exact inn_M h3 a q2
theorem RepCs.move (e : ∀ b u, ¬ Fb X M b → H b = some u → NT u → H' b = some u) (g : ∀ b, Fb X' M' b → Fb X M b ∨ H b = none) : ∀ {vs : List V} {cs : List Cl}, RepCs K X M H vs cs → (∀ a ∈ inn vs cs, M' a ∧ ∀ ws, H a = some (.lst ws) → H' a = some (.lst ws)) → RepCs K X' M' H' vs cs
  | [], [], _, _ => trivial
  | v :: vs, c :: cs, r, o => by
    refine ⟨?_, RepCs.move e g r.2 fun a h => o a (by unfold inn; exact List.mem_append_right _ h)⟩
    have r1 := r.1
    cases c with
    | v d => exact Rep.moveT e g d v r1
    | o ds =>
      obtain ⟨b, ws, rfl, h1, h2, h3⟩ := r1
      obtain ⟨q1, q2⟩ := o b (by unfold inn inn1; exact List.mem_append_left _ (List.mem_singleton.mpr rfl))
      exact ⟨b, ws, rfl, q1, q2 _ h2, RepL.moveT e g ds ws h3⟩
  | [], _ :: _, r, _ => r.elim
  | _ :: _, [], r, _ => r.elim
theorem RepS.move (h : RepS K X M H v s) (e : ∀ b u, ¬ Fb X M b → H b = some u → NT u → H' b = some u) (g : ∀ b, Fb X' M' b → Fb X M b ∨ H b = none) (o : ∀ a, Ows H v s a → M' a ∧ ∀ ws, H a = some (.lst ws) → H' a = some (.lst ws)) : RepS K X' M' H' v s := by
  cases s with
  | un => exact h.elim
  | val d => exact Rep.moveT e g d v h
  | own ds =>
    obtain ⟨a, vs, rfl, h1, h2, h3⟩ := h
    obtain ⟨q1, q2⟩ := o a rfl
    exact ⟨a, vs, rfl, q1, q2 _ h2, RepL.moveT e g ds vs h3⟩
  | nst cs =>
    obtain ⟨a, vs, rfl, h1, h2, h3, h4⟩ := h
    obtain ⟨q1, q2⟩ := o a ⟨a, vs, rfl, h2, List.mem_cons_self⟩
    exact ⟨a, vs, rfl, q1, q2 _ h2, h3.move e g (fun b hb => o b ⟨a, vs, rfl, h2, List.mem_cons_of_mem _ hb⟩), h4⟩
theorem Ows.back (h : RepS K X M H v s) (o : ∀ a, Ows H v s a → ∀ ws, H a = some (.lst ws) → H' a = some (.lst ws)) {a : Addr} (q : Ows H' v s a) : Ows H v s a := by
  cases s with
  | un => exact h.elim
  | val d => exact q.elim
  | own ds => exact q
  | nst cs =>
    obtain ⟨p, vs, rfl, h1, h2, h3, h4⟩ := h
    obtain ⟨p', ws, e, q1, q2⟩ := q
    cases e
    rw [o p ⟨p, vs, rfl, h2, List.mem_cons_self⟩ vs h2] at q1
    cases q1
    exact ⟨p, vs, rfl, h2, q2⟩
/-! ### what the slots tell -/
theorem RepLoc.val (r : RepLoc tb K X M σ H l) (i : Nat) (d : D) (e : l[i]? = some (.val d)) : ∃ v, σ[i]? = some (some v) ∧ Rep K (Fb X M) H v d := r.slot i _ e (fun z => by cases z)
theorem RepLoc.own (r : RepLoc tb K X M σ H l) (i : Nat) (ds : List D) (e : l[i]? = some (.own ds)) : ∃ a vs, σ[i]? = some (some (.ref a)) ∧ M a ∧ H a = some (.lst vs) ∧ RepL K (Fb X M) H vs ds := by
  obtain ⟨v, h1, a, vs, rfl, h2, h3, h4⟩ := r.slot i _ e (fun z => by cases z)
  exact ⟨a, vs, h1, h2, h3, h4⟩
theorem RepLoc.nst (r : RepLoc tb K X M σ H l) (i : Nat) (cs : List Cl) (e : l[i]? = some (.nst cs)) : ∃ a vs, σ[i]? = some (some (.ref a)) ∧ M a ∧ H a = some (.lst vs) ∧ RepCs K X M H vs cs ∧ (a :: inn vs cs).Nodup := by
  obtain ⟨v, h1, a, vs, rfl, h2, h3, h4⟩ := r.slot i _ e (fun z => by cases z)
  exact ⟨a, vs, h1, h2, h3, h4⟩
theorem RepLoc.inj (r : RepLoc tb K X M σ H l) (i j : Nat) (a : Addr) (ds es : List D) (e1 : l[i]? = some (.own ds)) (e2 : l[j]? = some (.own es)) (e3 : σ[i]? = some (some (.ref a))) (e4 : σ[j]? = some (some (.ref a))) : i = j := r.dj i j a _ _ _ _ e1 e2 e3 e4 rfl rfl
theorem RepLoc.owd_M (r : RepLoc tb K X M σ H l) {a : Addr} (o : Owd l σ H a) : M a ∧ ∃ ws, H a = some (.lst ws) := by
  obtain ⟨i, s, v, e1, e2, q⟩ := o
  obtain ⟨w, h1, h2⟩ := r.slot i s e1 (fun z => by subst z; exact q)
  rw [e2] at h1
  cases h1
  exact h2.ows_M q
theorem RepLoc.fresh (r : RepLoc tb K X M σ H l) {p : Addr} (n : H p = none) : ¬ Fb X M p := fun z => by
  obtain ⟨vs, e⟩ := r.trk p z
  rw [n] at e; cases e
/-- the same slots in another heap -/
theorem RepLoc.same (r : RepLoc tb K X M σ H l) (e : ∀ b u, ¬ Fb X M b → H b = some u → NT u → H' b = some u) (g : ∀ b, Fb X' M' b → Fb X M b ∨ H b = none)
    (o : ∀ a, Owd l σ H a → M' a ∧ ∀ ws, H a = some (.lst ws) → H' a = some (.lst ws)) (trk : ∀ a, X' a ∨ M' a → ∃ vs, H' a = some (.lst vs)) (dis : ∀ a, X' a → ¬ M' a) (tab : ∀ P, tb P → GxR.TabG H' P) : RepLoc tb K X' M' σ H' l where
  len := r.len
  slot := fun i s q n => by
    obtain ⟨v, h1, h2⟩ := r.slot i s q n
    exact ⟨v, h1, h2.move e g fun a z => o a ⟨i, s, v, q, h1, z⟩⟩
  dj := fun i j a s t v w e1 e2 e3 e4 q1 q2 => by
    obtain ⟨v', h1, h2⟩ := r.slot i s e1 (fun z => by subst z; exact q1)
    obtain ⟨w', h3, h4⟩ := r.slot j t e2 (fun z => by subst z; exact q2)
    rw [e3] at h1; cases h1
    rw [e4] at h3; cases h3
    exact r.dj i j a s t v w e1 e2 e3 e4 (q1.back h2 fun a z => (o a ⟨i, s, v, e1, e3, z⟩).2) (q2.back h4 fun a z => (o a ⟨j, t, w, e2, e4, z⟩).2)
  trk := trk
  dis := dis
  tab := tab
/-- fewer slots -/
theorem RepLoc.sub (r : RepLoc tb K X M σ H l) (hl : σ'.length = l'.length) (h : ∀ (i : Nat) s, l'[i]? = some s → s ≠ .un → l[i]? = some s ∧ σ'[i]? = σ[i]?) : RepLoc tb K X M σ' H l' where
  len := hl
  slot := fun i s q n => by
    obtain ⟨q1, q2⟩ := h i s q n
    rw [q2]; exact r.slot i s q1 n
  dj := fun i j a s t v w e1 e2 e3 e4 o1 o2 => by
    obtain ⟨q1, q2⟩ := h i s e1 (fun z => by subst z; exact o1)
    obtain ⟨q3, q4⟩ := h j t e2 (fun z => by subst z; exact o2)
    exact r.dj i j a s t v w q1 q3 (by rw [← q2]; exact e3) (by rw [← q4]; exact e4) o1 o2
  trk := r.trk
  dis := r.dis
  tab := r.tab
theorem Owd.sub {H : Hp} {a : Addr} (h : ∀ (i : Nat) s, l'[i]? = some s → s ≠ .un → l[i]? = some s ∧ σ'[i]? = σ[i]?) (o : Owd l' σ' H a) : Owd l σ H a := by
  obtain ⟨i, s, v, e1, e2, q⟩ := o
  obtain ⟨q1, q2⟩ := h i s e1 (fun z => by subst z; exact q)
  exact ⟨i, s, v, q1, by rw [← q2]; exact e2, q⟩
/-- an object is laid -/
theorem RepLoc.new (r : RepLoc tb K X M σ H l) {p : Addr} {o : HO} (n : H p = none) : RepLoc tb K X M σ (upd H p o) l :=
  r.same (fun b u _ e _ => by rw [upd_ne (ne_of_none e n)]; exact e) (fun b z => .inl z) (fun a z => ⟨(r.owd_M z).1, fun ws e => by rw [upd_ne (ne_of_none e n)]; exact e⟩)
    (fun a z => by
      obtain ⟨vs, e⟩ := r.trk a z
      exact ⟨vs, by rw [upd_ne (ne_of_none e n)]; exact e⟩) r.dis (fun P z => tab_upd (fun ps q => by rw [n] at q; cases q) (r.tab P z))
/-- .. and is one's own -/
theorem RepLoc.newM (r : RepLoc tb K X M σ H l) {p : Addr} {vs : List V} (n : H p = none) : RepLoc tb K X (fun b => M b ∨ b = p) σ (upd H p (.lst vs)) l :=
  r.same (fun b u _ e _ => by rw [upd_ne (ne_of_none e n)]; exact e) (fun b z => z.elim (fun x => .inl (.inl x)) fun q => q.elim (fun m => .inl (.inr m)) fun e => .inr (by rw [e]; exact n)) (fun a z => ⟨.inl (r.owd_M z).1, fun ws e => by rw [upd_ne (ne_of_none e n)]; exact e⟩)
    (fun a z => by
      by_cases ha : a = p
      · rw [ha, upd_same]; exact ⟨vs, rfl⟩
      · obtain ⟨ws, e⟩ := r.trk a (z.elim .inl (fun q => q.elim .inr (fun e => absurd e ha)))
        exact ⟨ws, by rw [upd_ne ha]; exact e⟩)
    (fun a x z => z.elim (r.dis a x) (fun e => r.fresh (p := p) n (.inl (by rw [← e]; exact x)))) (fun P z => tab_upd (fun ps q => by rw [n] at q; cases q) (r.tab P z))
theorem Owd.new {a p : Addr} {o : HO} (r : RepLoc tb K X M σ H l) (n : H p = none) (q : Owd l σ (upd H p o) a) : Owd l σ H a := by
  obtain ⟨i, s, v, e1, e2, q⟩ := q
  obtain ⟨w, h1, h2⟩ := r.slot i s e1 (fun z => by subst z; exact q)
  rw [e2] at h1
  cases h1
  exact ⟨i, s, v, e1, e2, q.back h2 fun a _ ws e => by rw [upd_ne (ne_of_none e n)]; exact e⟩
/-- own lists outside the slots become frozen ones -/
theorem RepLoc.lessP (r : RepLoc tb K X M σ H l) (P : Ad) (h : ∀ a, P a → ¬ Owd l σ H a) : RepLoc tb K X (fun b => M b ∧ ¬ P b) σ H l :=
  r.same (fun b u _ e _ => e) (fun b z => .inl (z.elim .inl fun q => .inr q.1)) (fun a z => ⟨⟨(r.owd_M z).1, fun q => h a q z⟩, fun ws e => e⟩) (fun a z => r.trk a (z.elim .inl fun q => .inr q.1)) (fun a x z => r.dis a x z.1) r.tab
theorem RepLoc.less (r : RepLoc tb K X M σ H l) (p : Addr) (h : ¬ Owd l σ H p) : RepLoc tb K X (fun b => M b ∧ b ≠ p) σ H l := r.lessP (fun b => b = p) fun a e => by subst e; exact h
/-- cells, all of them frozen -/
theorem RepCs.froz (trk : ∀ a, Fb X M' a → Fb X M a) (dis : ∀ a, X a → ¬ M a) : ∀ {vs : List V} {cs : List Cl}, RepCs K X M H vs cs → (∀ a ∈ inn vs cs, ¬ M' a) → RepL K (Fb X M') H vs (cs.map Cl.d)
  | [], [], _, _ => RepL.nil
  | v :: vs, c :: cs, r, o => by
    rw [List.map_cons]
    refine RepL.cons ?_ (RepCs.froz trk dis r.2 fun a h => o a (by unfold inn; exact List.mem_append_right _ h))
    have r1 := r.1
    cases c with
    | v d => exact Rep.mono r1 trk
    | o ds =>
      obtain ⟨b, ws, rfl, h1, h2, h3⟩ := r1
      have q := o b (by unfold inn inn1; exact List.mem_append_left _ (List.mem_singleton.mpr rfl))
      show Rep K _ H (.ref b) (.lst ds)
      rw [Rep]
      exact ⟨b, ws, rfl, .inl ⟨.inl h2, fun z => z.elim (fun x => dis b x h1) q⟩, h3.mono trk⟩
  | [], _ :: _, r, _ => r.elim
  | _ :: _, [], r, _ => r.elim
theorem RepR.toS (h : RepR K X M σ l H v s) : RepS K X M H v s := by
  cases s with
  | un => exact h.elim
  | val d => exact h
  | own ds =>
    obtain ⟨a, vs, rfl, h1, h2, h3, _⟩ := h
    exact ⟨a, vs, rfl, h1, h2, h3⟩
  | nst cs => exact h.1
theorem RepR.sep (h : RepR K X M σ l H v s) {a : Addr} (o : Ows H v s a) : ¬ Owd l σ H a := by
  cases s with
  | un => exact h.elim
  | val d => exact o.elim
  | own ds =>
    obtain ⟨b, vs, rfl, _, _, _, q⟩ := h
    have o : V.ref b = V.ref a := o
    cases o
    exact q
  | nst cs => exact h.2 a o
theorem RepR.mk (h : RepS K X M H v s) (q : ∀ a, Ows H v s a → ¬ Owd l σ H a) : RepR K X M σ l H v s := by
  cases s with
  | un => exact h.elim
  | val d => exact h
  | own ds =>
    obtain ⟨a, vs, rfl, h1, h2, h3⟩ := h
    exact ⟨a, vs, rfl, h1, h2, h3, q a rfl⟩
  | nst cs => exact ⟨h, q⟩
/-- a slot's value, frozen: P is what it owned -/
theorem RepS.froz (h : RepS K X M H v s) (dis : ∀ a, X a → ¬ M a) (trk : ∀ a, Fb X M' a → Fb X M a) (o : ∀ a, Ows H v s a → ¬ M' a) : Rep K (Fb X M') H v s.d := by
  cases s with
  | un => exact h.elim
  | val d => exact Rep.mono h trk
  | own ds =>
    obtain ⟨a, vs, rfl, h1, h2, h3⟩ := h
    show Rep K _ H (.ref a) (.lst ds)
    rw [Rep]
    exact ⟨a, vs, rfl, .inl ⟨.inl h2, fun z => z.elim (fun x => dis a x h1) (o a rfl)⟩, h3.mono trk⟩
  | nst cs =>
    obtain ⟨a, vs, rfl, h1, h2, h3, h4⟩ := h
    show Rep K _ H (.ref a) (.lst (cs.map Cl.d))
    rw [Rep]
    exact ⟨a, vs, rfl, .inl ⟨.inl h2, fun z => z.elim (fun x => dis a x h1) (o a ⟨a, vs, rfl, h2, List.mem_cons_self⟩)⟩, h3.froz trk dis fun b hb => o b ⟨a, vs, rfl, h2, List.mem_cons_of_mem _ hb⟩⟩
/-- a value of any kind as plain data; what it costs -/
theorem RepR.frozen {s : Sl} (r : RepLoc tb K X M σ H l) (h : RepR K X M σ l H v s) : ∃ M', (∀ b, M' b → M b) ∧ RepLoc tb K X M' σ H l ∧ Rep K (Fb X M') H v s.d :=
  ⟨fun b => M b ∧ ¬ Ows H v s b, fun _ z => z.1, r.lessP _ fun a o => h.sep o, h.toS.froz r.dis (fun a z => z.elim .inl fun q => .inr q.1) fun a o z => z.2 o⟩
/-- a slot is stored -/
theorem RepLoc.set (r : RepLoc tb K X M σ H l) {i : Nat} {v : V} {s : Sl} (hi : i < l.length) (h : RepR K X M σ l H v s) : RepLoc tb K X M (σ.set i (some v)) H (l.set i s) := by
  have hσ : i < σ.length := by rw [r.len]; exact hi
  have at1 : ∀ (j : Nat) z, (l.set i s)[j]? = some z → (j = i ∧ z = s) ∨ (j ≠ i ∧ l[j]? = some z) := fun j z e => by
    by_cases hj : j = i
    · subst hj; rw [List.getElem?_set_self hi] at e; exact .inl ⟨rfl, (Option.some.inj e).symm⟩
    · rw [List.getElem?_set_ne (Ne.symm hj)] at e; exact .inr ⟨hj, e⟩
  have at2 : (σ.set i (some v))[i]? = some (some v) := List.getElem?_set_self hσ
  have at3 : ∀ j, j ≠ i → (σ.set i (some v))[j]? = σ[j]? := fun j hj => List.getElem?_set_ne (Ne.symm hj)
  refine ⟨by rw [List.length_set, List.length_set]; exact r.len, fun j z e n => ?_, fun j k a z t x w e1 e2 e3 e4 o1 o2 => ?_, r.trk, r.dis, r.tab⟩
  · rcases at1 j _ e with ⟨rfl, e'⟩ | ⟨hj, e'⟩
    · subst e'; exact ⟨v, at2, h.toS⟩
    · rw [at3 j hj]; exact r.slot j z e' n
  · rcases at1 j _ e1 with ⟨rfl, q1⟩ | ⟨hj, q1⟩
    · rcases at1 k _ e2 with ⟨rfl, q2⟩ | ⟨hk, q2⟩
      · rfl
      · subst q1
        rw [at2] at e3; cases e3
        rw [at3 k hk] at e4
        exact absurd ⟨k, t, w, q2, e4, o2⟩ (h.sep o1)
    · rcases at1 k _ e2 with ⟨rfl, q2⟩ | ⟨hk, q2⟩
      · subst q2
        rw [at2] at e4; cases e4
        rw [at3 j hj] at e3
        exact absurd ⟨j, z, x, q1, e3, o1⟩ (h.sep o2)
      · rw [at3 j hj] at e3
        rw [at3 k hk] at e4
        exact r.dj j k a z t x w q1 q2 e3 e4 o1 o2
theorem set_un {i : Nat} : ∀ (j : Nat) (z : Sl), (l.set i .un)[j]? = some z → z ≠ Sl.un → j ≠ i ∧ l[j]? = some z := fun j z e hz => by
  by_cases hj : j = i
  · subst hj
    by_cases hi : j < l.length
    · rw [List.getElem?_set_self hi] at e; exact absurd (Option.some.inj e).symm hz
    · rw [List.getElem?_eq_none (by rw [List.length_set]; omega)] at e; cases e
  · rw [List.getElem?_set_ne (Ne.symm hj)] at e; exact ⟨hj, e⟩
theorem RepLoc.unset (r : RepLoc tb K X M σ H l) (i : Nat) : RepLoc tb K X M σ H (l.set i .un) :=
  r.sub (by rw [List.length_set]; exact r.len) fun j z e n => ⟨(set_un j z e n).2, rfl⟩
theorem σ_set {i : Nat} (e : σ[i]? = some (some v)) : σ.set i (some v) = σ := by
  refine List.ext_getElem? fun j => ?_
  by_cases hj : j = i
  · subst hj
    rw [List.getElem?_set_self (List.getElem?_eq_some_iff.mp e).1, e]
  · rw [List.getElem?_set_ne (Ne.symm hj)]
/-- what slot i owns, of no other one -/
theorem RepLoc.only (r : RepLoc tb K X M σ H l) {i : Nat} {s : Sl} (e : l[i]? = some s) (eσ : σ[i]? = some (some v)) {a : Addr} (o : Ows H v s a) : ¬ Owd (l.set i .un) σ H a := fun z => by
  obtain ⟨j, t, w, e1, e2, q⟩ := z
  obtain ⟨hj, e1⟩ := set_un j t e1 (fun z => by subst z; exact q)
  exact hj (r.dj j i a t s w v e1 e e2 eσ q o)
/-- .. is handed out -/
theorem RepLoc.take (r : RepLoc tb K X M σ H l) {i : Nat} {s : Sl} (e : l[i]? = some s) (n : s ≠ .un) : ∃ v, σ[i]? = some (some v) ∧ RepLoc tb K X M σ H (l.set i .un) ∧ RepR K X M σ (l.set i .un) H v s := by
  obtain ⟨v, h1, h2⟩ := r.slot i s e n
  exact ⟨v, h1, r.unset i, RepR.mk h2 fun a o => r.only e h1 o⟩
/-- slot i is demoted -/
theorem RepLoc.demoteS (r : RepLoc tb K X M σ H l) {i : Nat} {s : Sl} (e : l[i]? = some s) (n : s ≠ .un) : ∃ M', (∀ b, M' b → M b) ∧ RepLoc tb K X M' σ H (l.set i (.val s.d)) ∧ ∃ v, σ[i]? = some (some v) ∧ Rep K (Fb X M') H v s.d := by
  obtain ⟨v, h1, r1, h2⟩ := r.take e n
  obtain ⟨M', hm, r2, h3⟩ := RepR.frozen r1 h2
  refine ⟨M', hm, ?_, v, h1, h3⟩
  have hi : i < (l.set i .un).length := by rw [List.length_set]; exact (List.getElem?_eq_some_iff.mp e).1
  have := r2.set (i := i) (s := .val s.d) hi h3
  rw [List.set_set, σ_set h1] at this
  exact this
theorem RepLoc.demote (r : RepLoc tb K X M σ H l) {i : Nat} {ds : List D} (e : l[i]? = some (.own ds)) : ∃ M', (∀ b, M' b → M b) ∧ RepLoc tb K X M' σ H (l.set i (.val (.lst ds))) ∧ ∃ v, σ[i]? = some (some v) ∧ Rep K (Fb X M') H v (.lst ds) := r.demoteS e (fun z => by cases z)
end
end DL

set_option Elab.async false
set_option linter.all false
set_option maxRecDepth 100000
namespace DL
open PySem PySem.Spec PyProof.Rows L2

/-! ## the small language -/
inductive Prim where
  | add | sub | mul | fdiv | mod | pow | neg
  | eq | ne | lt | le | gt | ge | iz | izn | isin | notin
  | ix
  | abs | len | int | lst | tup | ist (T : Nat) | mn | mx | rgl | rgt | sum | srt | rev
  deriving DecidableEq, Inhabited
inductive Tg where
  | name (i : Nat) | tup (ts : List Tg)
  deriving Inhabited
/-- methods of own lists -/
inductive Mt where
  | pop | popAt | ins | rev
  deriving DecidableEq, Inhabited
inductive E where
  | var (i : Nat) | cst (d : D) | prim (p : Prim) (es : List E) | pack (t : Bool) (es : List E)
  | and (a b : E) | or (a b : E) | not (a : E) | ite (c a b : E) | chain (p q : Prim) (a b c : E)
  | call (f : Nat) (rf : Option Nat) (pm : List Nat) (es : List E)
  | slc (a : E) (b1 b2 : Bool) (es : List E)
  | comp (elt : E) (tg : Tg) (ik : Nat) (ies : List E) (ifs : List E) (ws : List Nat)
  | qnt (al : Bool) (elt : E) (tg : Tg) (ik : Nat) (ies : List E) (ifs : List E) (ws : List Nat)
  | mth (m : Mt) (i : Nat) (es : List E)
  | cpk (elt : E) (tg : Tg) (i : Nat) (ifs : List E) (ws : List Nat)
  /- lists with own lists within: frozen, handed out, an item (frozen), a built-in upon an item, a method of an item, an item's item, a display, a comprehension -/
  | frz (i : Nat) | mov (i : Nat) | nit (i : Nat) (k : E) | npk (p : Prim) (i : Nat) (k : E) | nmt (m : Mt) (i : Nat) (k : E) (es : List E) | niy (i : Nat) (k j : E)
  | npa (ks : List Nat) (es : List E) | ncm (elt : E) (tg : Tg) (ik : Nat) (ies : List E) (ifs : List E) (ws : List Nat)
  deriving Inhabited
inductive S where
  | set (i : Nat) (e : E) | asg (t : Tg) (e : E) | par (is : List Nat) (es : List E) | aug (i : Nat) (p : Prim) (e : E)
  | setix (i : Nat) (k e : E) | augix (i : Nat) (k : E) (p : Prim) (e : E) | app (i : Nat) (e : E) | ex (e : E)
  | ite (c : E) (a b : List S) | whl (c : E) (b : List S) | fer (t : Tg) (ik : Nat) (ies : List E) (b : List S)
  | ret (e : E) | retv (i : Nat) | brk | cnt | pas
  | nsx (i : Nat) (k e : E) | nap (i : Nat) (k e : E) | nao (i : Nat) (e : E) | nsy (i : Nat) (k j e : E)
  deriving Inhabited

/-! ## data -/
mutual
def toPy : D → PyData
  | .non => .none
  | .bl b => .bool b
  | .int i => .int i
  | .str x => .str x
  | .tup ds => .tuple (toPyL ds)
  | .lst ds => .list (toPyL ds)
def toPyL : List D → List PyData
  | [] => []
  | d :: ds => toPy d :: toPyL ds
end
def okEq (d : D) : Bool := SeqAt.shaped (toPy d)
def eqD (d e : D) : Bool := PyData.eqv (toPy d) (toPy e)
mutual
def nolst : D → Bool
  | .tup ds => nolstL ds
  | .lst _ => false
  | _ => true
def nolstL : List D → Bool
  | [] => true
  | d :: ds => nolst d && nolstL ds
end
def truth : D → Option Bool
  | .non => some false
  | .bl b => some b
  | .int i => some (i != 0)
  | .str x => if x.length ≤ 16777216 then some ((x.length : Int) != 0) else none
  | .tup ds => some !ds.isEmpty
  | .lst ds => some !ds.isEmpty
def mulOk (i j : Int) : Bool := decide (-(2 ^ 64) < i ∧ i < 2 ^ 64) || decide (-(2 ^ 64) < j ∧ j < 2 ^ 64) || decide (i.natAbs.log2 + j.natAbs.log2 < 1000000)
def cutD (xs : List D) (lo hi : Option Int) : List D := (xs.drop (HT.sIx xs.length 0 lo)).take (HT.sIx xs.length xs.length hi - HT.sIx xs.length 0 lo)
def flatD : D → Bool
  | .non | .bl _ | .int _ | .str _ => true
  | _ => false
def rgD (a b : Int) : List D := (List.range (b - a).toNat).map fun i => .int (a + (i : Nat))
def rgOk (a b : Int) : Bool := decide (-(2 ^ 62) ≤ a ∧ a < 2 ^ 62 ∧ -(2 ^ 62) ≤ b ∧ b < 2 ^ 62 ∧ (b - a).toNat ≤ 2 ^ 24)
def istD : Nat → D → Bool
  | 0, .int _ => true | 0, .bl _ => true
  | 1, .bl _ => true
  | 2, .str _ => true
  | 3, .tup _ => true
  | 4, .lst _ => true
  | _, _ => false
def partsD : Bool → Bool → List Int → Option (Option Int × Option Int)
  | false, false, [] => some (none, none)
  | true, false, [a] => some (some a, none)
  | false, true, [b] => some (none, some b)
  | true, true, [a, b] => some (some a, some b)
  | _, _, _ => none
def slD (d : D) (p : Option Int × Option Int) : Option Sl := match d with
  | .tup xs => some (.val (.tup (cutD xs p.1 p.2)))
  | .lst xs => some (.own (cutD xs p.1 p.2))
  | _ => none
def isNonD : D → Bool
  | .non => true
  | _ => false
def intsD : List D → Option (List Int)
  | [] => some []
  | .int i :: ds => (intsD ds).map (i :: ·)
  | _ => none
/-! what can be sorted -/
def alikeD (xs : List D) : Bool := xs.all fun d => xs.all fun e => PySem.W.alike (toPy d) (toPy e)
def tupSrt : D → Bool
  | .tup (_ :: _) => true
  | _ => false
def othSrt : D → Bool
  | .non => false
  | .tup _ => false
  | _ => true
def srtOk (xs : List D) : Bool := alikeD xs && (xs.all tupSrt || xs.all othSrt) && xs.all fun d => decide ((toPy d).depth ≤ 32)
def srtD (xs : List D) : List D := xs.mergeSort (PySem.W.dataLe false toPy)
def mthD : Mt → List D → List D → Option (D × List D)
  | .pop, ds, [] => match ds[ds.length - 1]? with
    | some d => some (d, ds.dropLast)
    | none => none
  | .popAt, ds, [.int j] => match ixN ds.length j with
    | some k => (match ds[k]? with
      | some d => some (d, ds.eraseIdx k)
      | none => none)
    | none => none
  | .ins, ds, [.int j, d] => if 0 ≤ j ∧ j < 2 ^ 62 ∧ ds.length < 16777216 then some (.non, ds.take j.toNat ++ [d] ++ ds.drop j.toNat) else none
  | .rev, ds, [] => some (.non, ds.reverse)
  | _, _, _ => none
def primD : Prim → List D → Option Sl
  | .add, [.int i, .int j] => some (.val (.int (i + j)))
  | .add, [.str x, .str y] => if x.length + y.length ≤ 16777216 then some (.val (.str (x ++ y))) else none
  | .add, [.tup xs, .tup ys] => if xs.length + ys.length ≤ 16777216 then some (.val (.tup (xs ++ ys))) else none
  | .add, [.lst xs, .lst ys] => if xs.length + ys.length ≤ 16777216 then some (.own (xs ++ ys)) else none
  | .sub, [.int i, .int j] => some (.val (.int (i - j)))
  | .mul, [.int i, .int j] => if mulOk i j then some (.val (.int (i * j))) else none
  | .mul, [.lst xs, .int k] => if decide (-(2 ^ 62) ≤ k ∧ k < 2 ^ 62) && decide (xs.length * k.toNat ≤ 16777216) then some (.own (List.replicate k.toNat xs).flatten) else none
  | .mul, [.tup xs, .int k] => if decide (2 ≤ k ∧ k ≤ 1000 ∧ xs.length ≤ 1000 ∧ xs ≠ []) then some (.val (.tup (List.replicate k.toNat xs).flatten)) else none
  | .fdiv, [.int i, .int j] => if j ≠ 0 ∧ j.natAbs.log2 < 9000 then some (.val (.int (i.fdiv j))) else none
  | .mod, [.int i, .int j] => if j ≠ 0 then some (.val (.int (i.fmod j))) else none
  | .pow, [.int i, .int j] => if 0 ≤ j ∧ j ≤ 1000000 ∧ i.natAbs < 2 ^ 64 then some (.val (.int (i ^ j.toNat))) else none
  | .neg, [.int i] => some (.val (.int (-i)))
  | .eq, [d, e] => if okEq d && okEq e then some (.val (.bl (eqD d e))) else none
  | .ne, [d, e] => if okEq d && okEq e then some (.val (.bl (!eqD d e))) else none
  | .lt, [.int i, .int j] => some (.val (.bl (decide (i < j))))
  | .le, [.int i, .int j] => some (.val (.bl (decide (i ≤ j))))
  | .gt, [.int i, .int j] => some (.val (.bl (decide (j < i))))
  | .ge, [.int i, .int j] => some (.val (.bl (decide (j ≤ i))))
  | .iz, [d, .non] => some (.val (.bl (isNonD d)))
  | .izn, [d, .non] => some (.val (.bl (!isNonD d)))
  | .iz, [.bl a, .bl b] => some (.val (.bl (decide (a = b))))
  | .izn, [.bl a, .bl b] => some (.val (.bl (!decide (a = b))))
  | .isin, [d, .tup xs] => if flatD d && xs.all flatD then some (.val (.bl (xs.any fun e => eqD e d))) else none
  | .isin, [d, .lst xs] => if flatD d && xs.all flatD || okEq d && okEq (.lst xs) then some (.val (.bl (xs.any fun e => eqD e d))) else none
  | .notin, [d, .tup xs] => if flatD d && xs.all flatD then some (.val (.bl (!xs.any fun e => eqD e d))) else none
  | .notin, [d, .lst xs] => if flatD d && xs.all flatD || okEq d && okEq (.lst xs) then some (.val (.bl (!xs.any fun e => eqD e d))) else none
  | .ix, [.tup xs, .int i] => (atI xs i).map .val
  | .ix, [.lst xs, .int i] => (atI xs i).map .val
  | .abs, [.int i] => some (.val (.int (if i < 0 then -i else i)))
  | .len, [.tup xs] => some (.val (.int xs.length))
  | .len, [.lst xs] => some (.val (.int xs.length))
  | .int, [.int i] => some (.val (.int i))
  | .int, [.bl b] => some (.val (.int (if b then 1 else 0)))
  | .lst, [.tup xs] => some (.own xs)
  | .lst, [.lst xs] => some (.own xs)
  | .tup, [.tup xs] => some (.val (.tup xs))
  | .tup, [.lst xs] => some (.val (.tup xs))
  | .ist T, [d] => if T < 5 then some (.val (.bl (istD T d))) else none
  | .mn, [.int i, .int j] => some (.val (.int (if j < i then j else i)))
  | .mx, [.int i, .int j] => some (.val (.int (if i < j then j else i)))
  | .mn, [.lst xs] => ((intsD xs).bind List.min?).map fun m => .val (.int m)
  | .mx, [.lst xs] => ((intsD xs).bind List.max?).map fun m => .val (.int m)
  | .sum, [.lst xs] => (intsD xs).map fun ns => .val (.int ns.sum)
  | .rgl, [.int a, .int b] => if rgOk a b then some (.own (rgD a b)) else none
  | .srt, [.lst xs] => if srtOk xs then some (.own (srtD xs)) else none
  | .srt, [.tup xs] => if srtOk xs then some (.own (srtD xs)) else none
  | .rev, [.tup xs] => some (.val (.tup xs.reverse))
  | .rev, [.lst xs] => some (.own xs.reverse)
  | .rgl, [.int b] => if rgOk 0 b then some (.own (rgD 0 b)) else none
  | .rgt, [.int b] => if rgOk 0 b then some (.val (.tup (rgD 0 b))) else none
  | .rgt, [.int a, .int b] => if rgOk a b then some (.val (.tup (rgD a b))) else none
  | _, _ => none

/-! ## expressions -/
inductive A where
  | pos (i : Nat) | dat (d : D)
def res (l : Loc) : A → Option D
  | .dat d => some d
  | .pos i => match l[i]? with
    | some (.val d) => some d
    | some (.own ds) => some (.lst ds)
    | _ => none
/-- a slot that is set -/
def resN (l : Loc) (i : Nat) : Bool := match l[i]? with
  | some (.val _) => true
  | some (.own _) => true
  | some (.nst _) => true
  | _ => false
def resL (l : Loc) : List A → Option (List D)
  | [] => some []
  | a :: as => match res l a, resL l as with
    | some d, some ds => some (d :: ds)
    | _, _ => none
def bindT : Tg → D → Loc → Option Loc
  | .name i, d, l => if i < l.length then some (l.set i (.val d)) else none
  | .tup ts, .tup ds, l => bindTs ts ds l
  | .tup _, _, _ => none
where bindTs : List Tg → List D → Loc → Option Loc
  | [], [], l => some l
  | t :: ts, d :: ds, l => match bindT t d l with
    | some l1 => bindTs ts ds l1
    | none => none
  | _, _, _ => none
def enumD : Nat → List D → List D
  | _, [] => []
  | n, d :: ds => .tup [.int n, d] :: enumD (n + 1) ds
def zipD (xs ys : List D) : List D := List.zipWith (fun x y => .tup [x, y]) xs ys
/-- the items of what is walked; ik 0: a list or a tuple, 1: range(n), 2: range(a, b), 3: zip, 4: enumerate -/
def items : Nat → List D → Option (List D)
  | 0, [.lst xs] => some xs
  | 0, [.tup xs] => some xs
  | 1, [.int n] => if rgOk 0 n then some (rgD 0 n) else none
  | 2, [.int a, .int b] => if rgOk a b then some (rgD a b) else none
  | 4, [.lst xs] => some (enumD 0 xs)
  | 4, [.tup xs] => some (enumD 0 xs)
  | 3, [.lst xs, .lst ys] => some (zipD xs ys)
  | 3, [.tup xs, .tup ys] => some (zipD xs ys)
  | 3, [.lst xs, .tup ys] => some (zipD xs ys)
  | 3, [.tup xs, .lst ys] => some (zipD xs ys)
  | 5, [.lst xs] => some xs.reverse
  | 5, [.tup xs] => some xs.reverse
  | _, _ => none
abbrev Gam := Nat → List Sl → R (Sl × List Sl)
/-- the arguments of a call, by the parameters; one of them may be a list that the callee changes -/
def argOf (l : Loc) (own : Bool) : A → Option Sl
  | .dat d => if own then none else some (.val d)
  | .pos i => match l[i]?, own with
    | some (.val d), false => some (.val d)
    | some (.own ds), false => some (.val (.lst ds))
    | some (.own ds), true => some (.own ds)
    | some (.nst cs), true => some (.nst cs)
    | _, _ => none
def argsOf (l : Loc) (rf : Option Nat) (as : List A) : Nat → List Nat → Option (List Sl)
  | _, [] => some []
  | j, k :: ks => match as[k]?, argsOf l rf as (j + 1) ks with
    | some a, some r => (argOf l (rf == some j) a).map (· :: r)
    | _, _ => none
/-- the slots whose own lists are handed on by value -/
def peeks (l : Loc) (rf : Option Nat) (as : List A) : Nat → List Nat → List Nat
  | _, [] => []
  | j, k :: ks => (match as[k]? with
    | some (.pos i) => if rf == some j then [] else (match l[i]? with | some (.own _) => [i] | _ => [])
    | _ => []) ++ peeks l rf as (j + 1) ks
def refAt (rf : Option Nat) (as : List A) (pm : List Nat) : Option Nat := match rf with
  | none => none
  | some j => match pm[j]? with
    | some k => (match as[k]? with | some (.pos i) => some i | _ => none)
    | none => none
def demote (l : Loc) (i : Nat) : Loc := match l[i]? with
  | some (.own ds) => l.set i (.val (.lst ds))
  | _ => l
def demotes (l : Loc) : List Nat → Loc
  | [] => l
  | i :: is => demotes (demote l i) is
def Cl.nol : Cl → Bool
  | .v d => nolst d
  | .o ds => nolstL ds
/-- own, or with own lists within -/
def Sl.lin : Sl → Bool
  | .own _ => true
  | .nst _ => true
  | _ => false
/-- no lists below the slot's own ones -/
def Sl.nol : Sl → Bool
  | .own ds => nolstL ds
  | .nst cs => cs.all Cl.nol
  | s => nolst s.d
/-- the slots behind a call -/
def after (l : Loc) (rf : Option Nat) (as : List A) (pm : List Nat) (s : Sl) (outs : List Sl) : Option Loc :=
  match rf, refAt rf as pm with
  | none, _ => let ps := peeks l rf as 0 pm; some (if ps.isEmpty || nolst s.d then l else demotes l ps)
  | some j, some i => match outs[j]? with
    | some (.own ds) => let ps := peeks l rf as 0 pm
      if ps.contains i then none else
      let l1 := l.set i (.own ds)
      some (if ps.isEmpty || (nolst s.d && nolstL ds) then l1 else demotes l1 ps)
    | some (.nst cs) => let ps := peeks l rf as 0 pm
      if ps.contains i then none else
      let l1 := l.set i (.nst cs)
      some (if ps.isEmpty || (nolst s.d && cs.all Cl.nol) then l1 else demotes l1 ps)
    | _ => none
  | some _, none => none
def wipeD (l : Loc) : List Nat → Loc
  | [] => l
  | v :: vs => (wipeD l vs).set v .un
def compL (bd : D → Loc → Option Loc) (ts : Loc → R (Bool × Loc)) (el : Loc → R (Sl × Loc)) (ws : List Nat) : List D → List D → Loc → R (List D × Loc)
  | [], acc, l => .ok (acc, l)
  | d :: ds, acc, l => match bd d (wipeD l ws) with
    | none => .bad
    | some l1 => (ts l1).bind fun r => if r.1 then
        (el r.2).bind fun r2 => if acc.length < 16777216 then compL bd ts el ws ds (acc ++ [r2.1.d]) (wipeD r2.2 ws) else .bad
      else compL bd ts el ws ds acc (wipeD r.2 ws)
def ownAt (l : Loc) (i : Nat) : Option (List D) := match l[i]? with
  | some (.own ds) => some ds
  | _ => none
def nstAt (l : Loc) (i : Nat) : Option (List Cl) := match l[i]? with
  | some (.nst cs) => some cs
  | _ => none
def isSet (l : Loc) (i : Nat) : Bool := match l[i]? with
  | some (.nst _) => true
  | some (.val _) => true
  | _ => false
def cellOf : Bool → Sl → Cl
  | true, .own ds => .o ds
  | _, s => .v s.d
/-- .. at the places ks -/
def cellsOf (ks : List Nat) : Nat → List Sl → List Cl
  | _, [] => []
  | n, s :: ss => cellOf (ks.contains n) s :: cellsOf ks (n + 1) ss
def compN (bd : D → Loc → Option Loc) (ts : Loc → R (Bool × Loc)) (el : Loc → R (Sl × Loc)) (ws : List Nat) : List D → List Cl → Loc → R (List Cl × Loc)
  | [], acc, l => .ok (acc, l)
  | d :: ds, acc, l => match bd d (wipeD l ws) with
    | none => .bad
    | some l1 => (ts l1).bind fun r => if r.1 then
        (el r.2).bind fun r2 => if acc.length < 16777216 then compN bd ts el ws ds (acc ++ [cellOf true r2.1]) (wipeD r2.2 ws) else .bad
      else compN bd ts el ws ds acc (wipeD r.2 ws)
/-- all, any -/
def allL (al : Bool) (bd : D → Loc → Option Loc) (ts : Loc → R (Bool × Loc)) (el : Loc → R (Sl × Loc)) (ws : List Nat) : List D → Loc → R (Bool × Loc)
  | [], l => .ok (al, l)
  | d :: ds, l => match bd d (wipeD l ws) with
    | none => .bad
    | some l1 => (ts l1).bind fun r => if r.1 then
        (el r.2).bind fun r2 => (match r2.1 with
          | .val (.bl b) => if b = al then allL al bd ts el ws ds (wipeD r2.2 ws) else .ok (!al, wipeD r2.2 ws)
          | _ => .bad)
      else allL al bd ts el ws ds (wipeD r.2 ws)

mutual
def evX (Γ : Gam) : E → Loc → R (Sl × Loc)
  | .var i, l => match l[i]? with
    | some (.val d) => .ok (.val d, l)
    | some (.own ds) => .ok (.val (.lst ds), l.set i (.val (.lst ds)))
    | _ => .bad
  | .cst d, l => .ok (.val d, l)
  | .prim p es, l => (evAs Γ es l).bind fun r => match resL r.2 r.1 with
    | some ds => (match primD p ds with
      | some s => .ok (s, r.2)
      | none => .bad)
    | none => .bad
  | .pack t es, l => (evDs Γ es l).bind fun r => if r.1.length ≤ 16777216 then .ok (if t then .val (.tup r.1) else .own r.1, r.2) else .bad
  | .and a b, l => (evX Γ a l).bind fun r => match r.1 with
    | .val (.bl true) => evX Γ b r.2
    | .val (.bl false) => .ok (.val (.bl false), r.2)
    | _ => .bad
  | .or a b, l => (evX Γ a l).bind fun r => match r.1 with
    | .val (.bl false) => evX Γ b r.2
    | .val (.bl true) => .ok (.val (.bl true), r.2)
    | _ => .bad
  | .not a, l => (evX Γ a l).bind fun r => match r.1 with
    | .val (.bl b) => .ok (.val (.bl (!b)), r.2)
    | _ => .bad
  | .ite c a b, l => (evT Γ c l).bind fun r => if r.1 then evX Γ a r.2 else evX Γ b r.2
  | .chain p q a b c, l => (evX Γ a l).bind fun r => (evX Γ b r.2).bind fun r1 => match primD p [r.1.d, r1.1.d] with
    | some (.val (.bl true)) => (evX Γ c r1.2).bind fun r2 => (match primD q [r1.1.d, r2.1.d] with
      | some s => .ok (s, r2.2)
      | none => .bad)
    | some (.val (.bl false)) => .ok (.val (.bl false), r1.2)
    | _ => .bad
  | .call f rf pm es, l => (evAs Γ es l).bind fun r => match argsOf r.2 rf r.1 0 pm with
    | none => .bad
    | some args => match Γ f args with
      | .ok (s, outs) => (match after r.2 rf r.1 pm s outs with
        | some l1 => .ok (s, l1)
        | none => .bad)
      | .exc x _ => if rf.isNone then .exc x r.2 else .bad
      | .bad => .bad
  | .slc a b1 b2 es, l => (evAs Γ [a] l).bind fun r => (evIs Γ es r.2).bind fun r1 => match resL r1.2 r.1, partsD b1 b2 r1.1 with
    | some [d], some p => (match slD d p with
      | some s => .ok (s, r1.2)
      | none => .bad)
    | _, _ => .bad
  | .comp elt tg ik ies ifs ws, l => (evDs Γ ies l).bind fun r => match items ik r.1 with
    | none => .bad
    | some xs => match compL (bindT tg) (evTs Γ ifs) (evX Γ elt) ws xs [] (wipeD r.2 ws) with
      | .ok (ds, l1) => .ok (.own ds, l1)
      | _ => .bad
  | .qnt al elt tg ik ies ifs ws, l => (evDs Γ ies l).bind fun r => match items ik r.1 with
    | none => .bad
    | some xs => match allL al (bindT tg) (evTs Γ ifs) (evX Γ elt) ws xs (wipeD r.2 ws) with
      | .ok (b, l1) => .ok (.val (.bl b), l1)
      | _ => .bad
  | .cpk elt tg i ifs ws, l => match ownAt l i with
    | some ds => (match compL (bindT tg) (evTs Γ ifs) (evX Γ elt) ws ds [] (wipeD (l.set i .un) ws) with
      | .ok (rs, l1) => if i < l1.length then .ok (.own rs, l1.set i (.own ds)) else .bad
      | _ => .bad)
    | none => .bad
  | .mth m i es, l => match ownAt l i with
    | some _ => (evDs Γ es l).bind fun r => (match ownAt r.2 i with
      | some ds => (match mthD m ds r.1 with
        | some z => .ok (.val z.1, r.2.set i (.own z.2))
        | none => .bad)
      | none => .bad)
    | none => .bad
  | .frz i, l => match l[i]? with
    | some (.val d) => .ok (.val d, l)
    | some (.own ds) => .ok (.val (.lst ds), l.set i (.val (.lst ds)))
    | some (.nst cs) => .ok (.val (.lst (cs.map Cl.d)), l.set i (.val (.lst (cs.map Cl.d))))
    | _ => .bad
  | .mov i, l => match l[i]? with
    | some (.val d) => .ok (.val d, l)
    | some (.own ds) => .ok (.own ds, l.set i .un)
    | some (.nst cs) => .ok (.nst cs, l.set i .un)
    | _ => .bad
  | .nit i k, l => if isSet l i then (evX Γ k l).bind fun r => (match r.2[i]?, r.1.d with
      | some (.nst cs), .int j => (match ixN cs.length j with
        | some m => (match cs[m]? with
          | some c => .ok (.val c.d, r.2.set i (.nst (cs.set m (.v c.d))))
          | none => .bad)
        | none => .bad)
      | some (.val d), .int j => (match primD .ix [d, .int j] with
        | some s => .ok (s, r.2)
        | none => .bad)
      | _, _ => .bad)
    else .bad
  | .npk p i k, l => match nstAt l i with
    | some _ => (evX Γ k l).bind fun r => (match nstAt r.2 i, r.1.d with
      | some cs, .int j => (match ixN cs.length j with
        | some m => (match cs[m]? with
          | some c => (match primD p [c.d] with
            | some s => .ok (s, r.2)
            | none => .bad)
          | none => .bad)
        | none => .bad)
      | _, _ => .bad)
    | none => .bad
  | .nmt m i k es, l => match nstAt l i with
    | some _ => (evX Γ k l).bind fun r => (match nstAt r.2 i, r.1.d with
      | some cs, .int j => (match ixN cs.length j with
        | some n => (match cs[n]? with
          | some (.o ds) => (evDs Γ es (r.2.set i .un)).bind fun r1 => (match mthD m ds r1.1 with
            | some z => .ok (.val z.1, r1.2.set i (.nst (cs.set n (.o z.2))))
            | none => .bad)
          | _ => .bad)
        | none => .bad)
      | _, _ => .bad)
    | none => .bad
  | .niy i k j, l => match nstAt l i with
    | some _ => (evX Γ k l).bind fun r => (match nstAt r.2 i, r.1.d with
      | some cs, .int a => (match ixN cs.length a with
        | some n => (match cs[n]? with
          | some c => (evX Γ j (r.2.set i .un)).bind fun r1 => (match r1.1.d with
            | .int b => (match primD .ix [c.d, .int b] with
              | some (.val d) => .ok (.val d, r1.2.set i (.nst cs))
              | _ => .bad)
            | _ => .bad)
          | none => .bad)
        | none => .bad)
      | _, _ => .bad)
    | none => .bad
  | .npa ks es, l => (evSs Γ es l).bind fun r => if r.1.length ≤ 16777216 then .ok (.nst (cellsOf ks 0 r.1), r.2) else .bad
  | .ncm elt tg ik ies ifs ws, l => (evDs Γ ies l).bind fun r => match items ik r.1 with
    | none => .bad
    | some xs => match compN (bindT tg) (evTs Γ ifs) (evX Γ elt) ws xs [] (wipeD r.2 ws) with
      | .ok (cs, l1) => .ok (.nst cs, l1)
      | _ => .bad
def evT (Γ : Gam) : E → Loc → R (Bool × Loc)
  | .and a b, l => (evT Γ a l).bind fun r => if r.1 then evT Γ b r.2 else .ok (false, r.2)
  | .or a b, l => (evT Γ a l).bind fun r => if r.1 then .ok (true, r.2) else evT Γ b r.2
  | .not a, l => (evT Γ a l).bind fun r => .ok (!r.1, r.2)
  | .var i, l => match res l (.pos i) with
    | some d => (match truth d with | some b => .ok (b, l) | none => .bad)
    | none => .bad
  | .cst d, l => match truth d with | some b => .ok (b, l) | none => .bad
  | .prim p es, l => (evAs Γ es l).bind fun r => match resL r.2 r.1 with
    | some ds => (match primD p ds with
      | some s => (match truth s.d with | some b => .ok (b, r.2) | none => .bad)
      | none => .bad)
    | none => .bad
  | .chain p q a b c, l => (evX Γ a l).bind fun r => (evX Γ b r.2).bind fun r1 => match primD p [r.1.d, r1.1.d] with
    | some (.val (.bl true)) => (evX Γ c r1.2).bind fun r2 => (match primD q [r1.1.d, r2.1.d] with
      | some (.val (.bl b)) => .ok (b, r2.2)
      | _ => .bad)
    | some (.val (.bl false)) => .ok (false, r1.2)
    | _ => .bad
  | .qnt al elt tg ik ies ifs ws, l => (evDs Γ ies l).bind fun r => match items ik r.1 with
    | none => .bad
    | some xs => match allL al (bindT tg) (evTs Γ ifs) (evX Γ elt) ws xs (wipeD r.2 ws) with
      | .ok (b, l1) => .ok (b, l1)
      | _ => .bad
  | .call f rf pm es, l => (evAs Γ es l).bind fun r => match argsOf r.2 rf r.1 0 pm with
    | none => .bad
    | some args => match Γ f args with
      | .ok (s, outs) => (match after r.2 rf r.1 pm s outs with
        | some l1 => (match truth s.d with | some b => .ok (b, l1) | none => .bad)
        | none => .bad)
      | .exc x _ => if rf.isNone then .exc x r.2 else .bad
      | .bad => .bad
  | _, _ => .bad
/-- arguments of an operation: slots are read when it is done -/
def evAs (Γ : Gam) : List E → Loc → R (List A × Loc)
  | [], l => .ok ([], l)
  | .var i :: es, l => match resN l i with
    | true => (evAs Γ es l).bind fun r => .ok (.pos i :: r.1, r.2)
    | false => .bad
  | e :: es, l => (evX Γ e l).bind fun r => (evAs Γ es r.2).bind fun r2 => .ok (.dat r.1.d :: r2.1, r2.2)
/-- items that are kept -/
def evDs (Γ : Gam) : List E → Loc → R (List D × Loc)
  | [], l => .ok ([], l)
  | e :: es, l => (evX Γ e l).bind fun r => (evDs Γ es r.2).bind fun r2 => .ok (r.1.d :: r2.1, r2.2)
/-- values that are stored one by one: own lists stay own -/
def evSs (Γ : Gam) : List E → Loc → R (List Sl × Loc)
  | [], l => .ok ([], l)
  | e :: es, l => (evX Γ e l).bind fun r => (evSs Γ es r.2).bind fun r2 => .ok (r.1 :: r2.1, r2.2)
/-- ints -/
def evIs (Γ : Gam) : List E → Loc → R (List Int × Loc)
  | [], l => .ok ([], l)
  | e :: es, l => (evX Γ e l).bind fun r => match r.1 with
    | .val (.int i) => (evIs Γ es r.2).bind fun r2 => .ok (i :: r2.1, r2.2)
    | _ => .bad
/-- the tests of a comprehension's clause -/
def evTs (Γ : Gam) : List E → Loc → R (Bool × Loc)
  | [], l => .ok (true, l)
  | [e], l => evT Γ e l
  | _, _ => .bad
end

/-! ## statements -/
inductive Fl where
  | nx | brk | cnt | ret (s : Sl)
def forL (bd : D → Loc → Option Loc) (body : Loc → R (Fl × Loc)) : List D → Loc → R (Fl × Loc)
  | [], l => .ok (.nx, l)
  | d :: ds, l => match bd d l with
    | none => .bad
    | some l1 => (body l1).bind fun r => match r.1 with
      | .nx => forL bd body ds r.2
      | .cnt => forL bd body ds r.2
      | .brk => .ok (.nx, r.2)
      | .ret s => .ok (.ret s, r.2)
def whileL (c : Loc → R (Bool × Loc)) (body : Loc → R (Fl × Loc)) : Nat → Loc → R (Fl × Loc)
  | 0, _ => .bad
  | n + 1, l => (c l).bind fun r => if r.1 then (body r.2).bind fun r2 => (match r2.1 with
      | .nx => whileL c body n r2.2
      | .cnt => whileL c body n r2.2
      | .brk => .ok (.nx, r2.2)
      | .ret s => .ok (.ret s, r2.2))
    else .ok (.nx, r.2)
def whileFuel : Nat := 16777216
/-- ints alone -/
def augD : Prim → D → D → Option Int
  | .add, .int i, .int j => some (i + j)
  | .sub, .int i, .int j => some (i - j)
  | .mul, .int i, .int j => if decide (-(2 ^ 64) < i ∧ i < 2 ^ 64) || decide (-(2 ^ 64) < j ∧ j < 2 ^ 64) then some (i * j) else none
  | _, _, _ => none
def setAll (l : Loc) : List Nat → List Sl → Option Loc
  | [], [] => some l
  | i :: is, d :: ds => if i < l.length then setAll (l.set i d) is ds else none
  | _, _ => none
mutual
def exS (Γ : Gam) : S → Loc → R (Fl × Loc)
  | .set i e, l => (evX Γ e l).bind fun r => if i < r.2.length then .ok (.nx, r.2.set i r.1) else .bad
  | .asg t e, l => (evX Γ e l).bind fun r => match bindT t r.1.d r.2 with
    | some l1 => .ok (.nx, l1)
    | none => .bad
  | .par is es, l => (evSs Γ es l).bind fun r => match setAll r.2 is r.1 with
    | some l1 => .ok (.nx, l1)
    | none => .bad
  | .aug i p e, l => match res l (.pos i) with
    | some _ => (evX Γ e l).bind fun r => (match res r.2 (.pos i) with
      | some d => (match augD p d r.1.d with
        | some x => if i < r.2.length then .ok (.nx, r.2.set i (.val (.int x))) else .bad
        | none => .bad)
      | none => .bad)
    | none => .bad
  | .setix i k e, l => (evX Γ e l).bind fun r => match ownAt r.2 i with
    | some _ => (evX Γ k r.2).bind fun r1 => (match ownAt r1.2 i, r1.1.d with
      | some ds, .int j => (match ixN ds.length j with
        | some m => .ok (.nx, r1.2.set i (.own (ds.set m r.1.d)))
        | none => .bad)
      | _, _ => .bad)
    | none => .bad
  | .augix i k p e, l => match ownAt l i with
    | some _ => (evX Γ k l).bind fun r => (match ownAt r.2 i, r.1.d with
      | some ds, .int j => (match atI ds j with
        | some d => (evX Γ e r.2).bind fun r1 => (match ownAt r1.2 i, augD p d r1.1.d with
          | some ds1, some x => (match ixN ds1.length j with
            | some m => .ok (.nx, r1.2.set i (.own (ds1.set m (.int x))))
            | none => .bad)
          | _, _ => .bad)
        | none => .bad)
      | _, _ => .bad)
    | none => .bad
  | .app i e, l => match ownAt l i with
    | some _ => (evX Γ e l).bind fun r => (match ownAt r.2 i with
      | some ds => if ds.length < 16777216 then .ok (.nx, r.2.set i (.own (ds ++ [r.1.d]))) else .bad
      | none => .bad)
    | none => .bad
  | .ex e, l => (evX Γ e l).bind fun r => .ok (.nx, r.2)
  | .ite c a b, l => (evT Γ c l).bind fun r => if r.1 then exB Γ a r.2 else exB Γ b r.2
  | .whl c b, l => whileL (evT Γ c) (exB Γ b) whileFuel l
  | .fer t ik ies b, l => (evDs Γ ies l).bind fun r => match items ik r.1 with
    | none => .bad
    | some xs => forL (bindT t) (exB Γ b) xs r.2
  | .ret e, l => (evX Γ e l).bind fun r => .ok (.ret r.1, r.2)
  | .retv i, l => match l[i]? with
    | some (.own ds) => .ok (.ret (.own ds), l.set i .un)
    | some (.nst cs) => .ok (.ret (.nst cs), l.set i .un)
    | some (.val d) => .ok (.ret (.val d), l)
    | _ => .bad
  | .brk, l => .ok (.brk, l)
  | .cnt, l => .ok (.cnt, l)
  | .pas, l => .ok (.nx, l)
  | .nsx i k e, l => (evX Γ e l).bind fun r => match nstAt r.2 i with
    | some _ => (evX Γ k r.2).bind fun r1 => (match nstAt r1.2 i, r1.1.d with
      | some cs, .int j => (match ixN cs.length j with
        | some m => .ok (.nx, r1.2.set i (.nst (cs.set m (.v r.1.d))))
        | none => .bad)
      | _, _ => .bad)
    | none => .bad
  | .nap i k e, l => match nstAt l i with
    | some _ => (evX Γ k l).bind fun r => (match nstAt r.2 i, r.1.d with
      | some cs, .int j => (match ixN cs.length j with
        | some n => (match cs[n]? with
          | some (.o ds) => (evX Γ e (r.2.set i .un)).bind fun r1 => if ds.length < 16777216 then .ok (.nx, r1.2.set i (.nst (cs.set n (.o (ds ++ [r1.1.d]))))) else .bad
          | _ => .bad)
        | none => .bad)
      | _, _ => .bad)
    | none => .bad
  | .nao i e, l => match nstAt l i with
    | some _ => (evX Γ e l).bind fun r => (match nstAt r.2 i with
      | some cs => if cs.length < 16777216 then .ok (.nx, r.2.set i (.nst (cs ++ [cellOf true r.1]))) else .bad
      | none => .bad)
    | none => .bad
  | .nsy i k j e, l => (evX Γ e l).bind fun r => match nstAt r.2 i with
    | some _ => (evX Γ k r.2).bind fun r1 => (match nstAt r1.2 i, r1.1.d with
      | some cs, .int a => (match ixN cs.length a with
        | some n => (match cs[n]? with
          | some (.o ds) => (evX Γ j (r1.2.set i .un)).bind fun r2 => (match r2.1.d with
            | .int b => (match ixN ds.length b with
              | some m => .ok (.nx, r2.2.set i (.nst (cs.set n (.o (ds.set m r.1.d)))))
              | none => .bad)
            | _ => .bad)
          | _ => .bad)
        | none => .bad)
      | _, _ => .bad)
    | none => .bad
def exB (Γ : Gam) : List S → Loc → R (Fl × Loc)
  | [], l => .ok (.nx, l)
  | s :: ss, l => (exS Γ s l).bind fun r => match r.1 with
    | .nx => exB Γ ss r.2
    | f => .ok (f, r.2)
end

/-! ## functions -/
structure FD where
  np : Nat
  nl : Nat
  rf : Option Nat
  body : List S
def outsOf (l : Loc) (np : Nat) (rf : Option Nat) : Option (List Sl) := match rf with
  | none => some (List.replicate np .un)
  | some j => match l[j]? with
    | some (.own ds) => some ((List.replicate np Sl.un).set j (.own ds))
    | some (.nst cs) => some ((List.replicate np Sl.un).set j (.nst cs))
    | _ => none
def runF (Γ : Gam) (fd : FD) (args : List Sl) : R (Sl × List Sl) :=
  if args.length = fd.np then
    match exB Γ fd.body (args ++ List.replicate (fd.nl - fd.np) .un) with
    | .ok (.nx, l) => (match outsOf l fd.np fd.rf with | some o => .ok (.val .non, o) | none => .bad)
    | .ok (.ret s, l) => (match outsOf l fd.np fd.rf with | some o => .ok (s, o) | none => .bad)
    | .exc x l => .exc x l
    | _ => .bad
  else .bad
def callF (P : Nat → Option FD) : Nat → Gam
  | 0, _, _ => .bad
  | n + 1, f, args => match P f with
    | none => .bad
    | some fd => runF (callF P n) fd args
end DL

set_option Elab.async false
set_option linter.all false
set_option maxRecDepth 100000
namespace DL
open PySem PySem.Spec PyProof.Rows L2

/-! ## operations -/
/-- as Rep, the outermost list may stand anywhere -/
def Pk (K : PySem.W.Frag) (F : Ad) (H : Hp) (v : V) : D → Prop
  | .lst ds => ∃ a vs, v = .ref a ∧ SqL K H a vs ∧ RepL K F H vs ds
  | d => Rep K F H v d
def PkL (K : PySem.W.Frag) (F : Ad) (H : Hp) : List V → List D → Prop
  | [], [] => True
  | v :: vs, d :: ds => Pk K F H v d ∧ PkL K F H vs ds
  | _, _ => False
section
variable {K : PySem.W.Frag} {F : Ad} {H : Hp} {v : V}
theorem Rep.pk {d : D} (h : Rep K F H v d) : Pk K F H v d := by
  cases d with
  | lst ds =>
    rw [Rep] at h
    obtain ⟨a, vs, e, h1, h2⟩ := h
    exact ⟨a, vs, e, h1.sq, h2⟩
  | _ => exact h
theorem Pk.non' (h : Pk K F H v .non) : v = .non := by simpa [Pk, Rep] using h
theorem Pk.bl' {b : Bool} (h : Pk K F H v (.bl b)) : v = .bl b := by simpa [Pk, Rep] using h
theorem Pk.int' {i : Int} (h : Pk K F H v (.int i)) : v = .int i := by simpa [Pk, Rep] using h
theorem Pk.str' {x : Str} (h : Pk K F H v (.str x)) : v = .str x := by simpa [Pk, Rep] using h
theorem Pk.tup' {ds : List D} (h : Pk K F H v (.tup ds)) : ∃ a vs, v = .ref a ∧ SeqT K F H a vs ∧ RepL K F H vs ds := by
  have h' : Rep K F H v (.tup ds) := h
  rw [Rep] at h'; exact h'
theorem Rep.int (i : Int) : Rep K F H (.int i) (.int i) := by rw [Rep]
theorem Rep.bl (b : Bool) : Rep K F H (.bl b) (.bl b) := by rw [Rep]
theorem Rep.non : Rep K F H .non .non := by rw [Rep]
theorem Rep.str (x : Str) : Rep K F H (.str x) (.str x) := by rw [Rep]
theorem Rep.tup {a : Addr} {vs : List V} {ds : List D} (h : SeqT K F H a vs) (r : RepL K F H vs ds) : Rep K F H (.ref a) (.tup ds) := by rw [Rep]; exact ⟨a, vs, rfl, h, r⟩
mutual
theorem Rep.dp : ∀ (d : D) (v : V), Rep K F H v d → Dp K H v (toPy d)
  | .non, v, h => by rw [Rep] at h; subst h; rw [toPy]; exact .non
  | .bl b, v, h => by rw [Rep] at h; subst h; rw [toPy]; exact .bl b
  | .int i, v, h => by rw [Rep] at h; subst h; rw [toPy]; exact .int i
  | .str x, v, h => by rw [Rep] at h; subst h; rw [toPy]; exact .str x
  | .tup ds, v, h => by
    rw [Rep] at h
    obtain ⟨a, vs, rfl, h1, h2⟩ := h
    rw [toPy]; exact .tup h1.sq (RepL.dp ds vs h2)
  | .lst ds, v, h => by
    rw [Rep] at h
    obtain ⟨a, vs, rfl, h1, h2⟩ := h
    rw [toPy]; exact .lst h1.sq (RepL.dp ds vs h2)
theorem RepL.dp : ∀ (ds : List D) (vs : List V), RepL K F H vs ds → DpAll K H vs (toPyL ds)
  | [], vs, h => by rw [RepL] at h; subst h; rw [toPyL]; exact .nil
  | d :: ds, vs, h => by
    rw [RepL] at h
    obtain ⟨v, r, rfl, h1, h2⟩ := h
    rw [toPyL]; exact .cons (Rep.dp d v h1) (RepL.dp ds r h2)
end
theorem Pk.dp {d : D} (h : Pk K F H v d) : Dp K H v (toPy d) := by
  cases d with
  | lst ds =>
    obtain ⟨a, vs, rfl, h1, h2⟩ := h
    rw [toPy]; exact .lst h1 (RepL.dp ds vs h2)
  | non => exact Rep.dp (F := F) _ _ h
  | bl _ => exact Rep.dp (F := F) _ _ h
  | int _ => exact Rep.dp (F := F) _ _ h
  | str _ => exact Rep.dp (F := F) _ _ h
  | tup _ => exact Rep.dp (F := F) _ _ h
def tyN : D → String
  | .non => "NoneType" | .bl _ => "bool" | .int _ => "int" | .str _ => "str" | .tup _ => "tuple" | .lst _ => "list"
theorem Pk.ty {d : D} (h : Pk K F H v d) : TyX K H v (.type (tyN d)) := by
  cases d with
  | non => rw [h.non']; exact .base .non
  | bl b => rw [h.bl']; exact .base (.bl b)
  | int i => rw [h.int']; exact .base (.int i)
  | str x => rw [h.str']; exact .base (.str x)
  | tup ds =>
    obtain ⟨a, vs, rfl, h1, h2⟩ := h.tup'
    rcases h1 with ⟨h1 | ⟨o, h1⟩, _⟩ | ⟨o, its, n, h1, h3, _⟩
    · exact .base (.tup h1)
    · exact .fTuple h1
    · exact .kTuple h1 h3
  | lst ds =>
    obtain ⟨a, vs, rfl, h1, h2⟩ := h
    rcases h1 with (h1 | ⟨o, h1⟩) | ⟨o, its, n, h1, h3, _⟩
    · exact .base (.lst h1)
    · exact .base (.frz h1)
    · exact .kList h1 h3
end

/-- what comes of an operation: at most one new object -/
def FinP (K : PySem.W.Frag) (F : Ad) (H : Hp) (Q : VK) : Sl → Prop
  | .un => False
  | .val r => ∀ v H', (H' = H ∨ ∃ p o, H p = none ∧ H' = upd H p o) → Rep K F H' v r → Q v H'
  | .own ds => ∀ p vs, H p = none → RepL K F H vs ds → Q (.ref p) (upd H p (.lst vs))
  | .nst _ => True
abbrev Trk (F : Ad) (H : Hp) : Prop := ∀ a, F a → H a ≠ none
def RB (K : PySem.W.Frag) (p : Prim) : R2 := fun x y H Q => ∃ (F : Ad) (d e : D) (s : Sl), Trk F H ∧ Pk K F H x d ∧ Pk K F H y e ∧ primD p [d, e] = some s ∧ FinP K F H Q s
def RN (K : PySem.W.Frag) (p : Prim) : List V → Hp → VK → Prop := fun xs H Q => ∃ (F : Ad) (ds : List D) (s : Sl), Trk F H ∧ PkL K F H xs ds ∧ primD p ds = some s ∧ FinP K F H Q s
section
variable {K : PySem.W.Frag} {F : Ad} {H : Hp} {Q : VK}
theorem FinP.val0 {r : D} {v : V} (h : FinP K F H Q (.val r)) (rv : Rep K F H v r) : Q v H := h v H (.inl rfl) rv
theorem rep_new {d : D} {v : V} {p : Addr} {o : HO} (h : Rep K F H v d) (n : H p = none) : Rep K F (upd H p o) v d := h.move (fun b u _ e => by rw [upd_ne (ne_of_none e n)]; exact e) (fun b z => .inl z)
theorem repL_new {ds : List D} {vs : List V} {p : Addr} {o : HO} (h : RepL K F H vs ds) (n : H p = none) : RepL K F (upd H p o) vs ds := h.move (fun b u _ e => by rw [upd_ne (ne_of_none e n)]; exact e) (fun b z => .inl z)
/-- a new tuple -/
theorem FinP.tup {ds : List D} {vs : List V} (t : Trk F H) (h : FinP K F H Q (.val (.tup ds))) (r : RepL K F H vs ds) : ∀ p, H p = none → Q (.ref p) (upd H p (.tup vs)) := fun p n =>
  h _ _ (.inr ⟨p, _, n, rfl⟩) (Rep.tup (.inl ⟨.inl upd_same, fun z => t p z n⟩) (repL_new r n))
end

theorem nat_sl : sizeLine = 16777216 := sizeLine_eq
section
variable {X : Cx}
theorem op_fdivA : OpR X (binaryOp .FloorDiv) (rI (fun _ j => j ≠ 0 ∧ j.natAbs.log2 < 9000) fun i j => .int (i.fdiv j)) := opI fun _ _ _ _ _ _ _ hc q => floordiv_int hc.1 q (.inl (PyProof.noPylong_of_log2 hc.2))
theorem op_mulA : OpR X (binaryOp .Mult) (rI (fun i j => mulOk i j = true) fun i j => .int (i * j)) := opI fun i j _ _ _ _ _ hc q => by
  unfold mulOk at hc
  simp only [Bool.or_eq_true, decide_eq_true_eq] at hc
  rcases hc with hc | hc
  · exact mul_int q (CMul.ok (i := i) (j := j) hc)
  · exact mul_int q (CMulW.ok (i := i) (j := j) hc)
def rCatL (K : PySem.W.Frag) : R2 := fun x y H Q => ∃ l b xs zs, x = .ref l ∧ y = .ref b ∧ SqL K H l xs ∧ SqL K H b zs ∧ xs.length + zs.length ≤ sizeLine ∧ ∀ p, H p = none → Q (.ref p) (upd H p (.lst (xs ++ zs)))
open PySem.P in
theorem op_catL : OpR X (binaryOp .Add) (rCatL X.K) := by
  intro pins s σ H x y v u Q I rx ry h
  obtain ⟨l, b, xs, zs, rfl, rfl, hH, hB, hz, q⟩ := h
  cases rx
  cases ry
  obtain ⟨its, r, ⟨⟨cls, dd, data, sl⟩, n, ho, hc, hd0, hd⟩, _⟩ := I.list hH
  obtain ⟨its2, r2, ⟨⟨cls2, dd2, data2, sl2⟩, n2, ho2, hc2, hd02, hd2⟩, _⟩ := I.list hB
  have hl := r.length
  have hl2 := r2.length
  simp only at hc hd hc2 hd2
  subst hc hd hc2 hd2
  have ea : its.toArray ++ its2.toArray = (its ++ its2).toArray := by simp
  refine concat_meets ⟨_, ho, rfl⟩ ⟨_, ho2, rfl⟩ noFill_list_add seq_list_add PySem.F.slot_list_add PySem.F.entry_list_add (PySem.F.args_list_add_2 _ _) (list_addW l b its.toArray its2.toArray n n2 dd dd2 sl sl2 (by rw [List.size_toArray, List.size_toArray]; omega)) ⟨ho, ho2, ?_⟩
  rw [ea]
  exact ⟨.ref _, _, I.lnew (t' := s.toks) (r.append r2) (by rw [List.length_append]; omega), rfl, q _ I.fresh⟩
end
end DL

set_option Elab.async false
set_option linter.all false
set_option maxRecDepth 100000
set_option maxHeartbeats 4000000
namespace DL
open PySem PySem.Spec PyProof.Rows L2

/-! ## list * int -/
theorem int_rmul_list (a : Int) (t : Tok) (l : Addr) (items : Array Value) (n : Nat) (dd : Option Addr) (sl : Array (Option Value)) :
    Meets (Builtin.«int.__rmul__» ⟨[.int a t, .ref l], []⟩) (fun _ R s => s.heap.get? l = some { cls := .type "list", dict := dd, data := .seq items n, slots := sl } ∧ R (.ok (.ret Value.notImplemented)) s) :=
  .of_wp fun prog w A R s h => by obtain ⟨hp, g, d, tk, os⟩ := s; obtain ⟨hl, h⟩ := h; wp_walk using wpAny_loadPart' hl; exact ⟨_, rfl, h⟩
theorem list_mulW (l : Addr) (items : Array Value) (n : Nat) (dd : Option Addr) (sl : Array (Option Value)) (x : Int) (u : Tok) (hc0 : ¬(!Builtin.List.listFitsIndex x) = true) (hc1 : ¬items.size * x.toNat > (2 ^ 63 - 1) / 8) (hc2 : ¬Builtin.List.listTooLong (items.size * x.toNat) = true) :
    Meets (Builtin.«list.__mul__» ⟨[.ref l, .int x u], []⟩) (fun _ R s => s.heap.get? l = some { cls := .type "list", dict := dd, data := .seq items n, slots := sl } ∧ R (.ok (.ret (Value.ref s.heap.objs.size))) { s with heap := s.heap.push { cls := Value.type "list", data := Data.seq (List.foldl (fun x1 x2 => x1 ++ x2) #[] (List.replicate (if items.isEmpty = true then 0 else x.toNat) items)) }, toks := s.toks }) :=
  .of_wp fun prog w A R s h => by
    obtain ⟨hp, g, d, tk, os⟩ := s; obtain ⟨hl, h⟩ := h
    have hsz := PySem.AutoListH.joined_fits hc2
    wp_walk using wpAny_loadPart' hl
    refine wpAny_ite_false (decide_eq_false (Nat.not_lt.mpr hsz)) ?_
    wp_walk using wpAny_loadPart' hl
    exact ⟨_, rfl, h⟩
def rRepL (K : PySem.W.Frag) : R2 := fun x y H Q => ∃ l k xs, x = .ref l ∧ y = .int k ∧ SqL K H l xs ∧ -(2 ^ 63) ≤ k ∧ k < 2 ^ 63 ∧ xs.length * k.toNat ≤ sizeLine ∧
  ∀ p, H p = none → Q (.ref p) (upd H p (.lst (List.replicate k.toNat xs).flatten))
section
variable {X : Cx}
theorem op_repL : OpR X (binaryOp .Mult) (rRepL X.K) := by
  intro pins s σ H x y v u Q I rx ry h
  obtain ⟨l, k, xs, rfl, rfl, hT, h1, h2, hz, q⟩ := h
  cases rx
  obtain ⟨t, rfl⟩ := ry
  obtain ⟨its, r, ⟨⟨cls, dd, data, sl⟩, n, ho, hc, hd0, hd⟩, hs⟩ := I.list hT
  simp only at hc hd hd0
  subst hc hd
  have hl := r.length
  have hlen : its.toArray.size * k.toNat ≤ sizeLine := by rw [List.size_toArray, ← hl]; exact hz
  have hcap : ¬ its.toArray.size * k.toNat > (2 ^ 63 - 1) / 8 := by
    have : (sizeLine : Nat) ≤ (2 ^ 63 - 1) / 8 := by decide
    omega
  have hfit : ¬ (!Builtin.List.listFitsIndex k) = true := by
    rw [fitsIndex_both h1 h2]
    exact Bool.false_ne_true
  have hlong : ¬ Builtin.List.listTooLong (its.toArray.size * k.toNat) = true := by
    rw [notLongL hlen]
    exact Bool.false_ne_true
  have hnew : List.foldl (fun x1 x2 => x1 ++ x2) #[] (List.replicate (if its.toArray.isEmpty = true then 0 else k.toNat) its.toArray) = (List.replicate k.toNat its).flatten.toArray := by
    have f0 : ∀ m : Nat, List.foldl (fun x1 x2 => x1 ++ x2) #[] (List.replicate m its.toArray) = (List.replicate m its).flatten.toArray := fun m => by
      have := foldl_rep its m []
      rw [List.nil_append] at this
      exact this
    rw [f0]
    cases its with
    | nil => simp
    | cons a r' => rw [if_neg (by simp)]
  refine wpAny_binaryOp_repeat_ref (T := "list") (U := "int") (by decide) ⟨_, ho, rfl⟩ (fun s' => typeIs_int s' k t) noFill_list_mul F.fills_int_mul F.slot_int_rmul repeat_list F.slot_int_index.lookup
    (call_meets F.slot_int_rmul (typeIs_int s k t) F.entry_int_rmul (F.args_int_rmul_2 _ _) (int_rmul_list k t l its.toArray n dd sl)
      ⟨ho, rfl, ⟨_, ho, rfl⟩, call_meets F.slot_list_mul ⟨_, ho, rfl⟩ F.entry_list_mul (F.args_list_mul_2 _ _) (list_mulW l its.toArray n dd sl k t hfit hcap hlong) ⟨ho, ?_⟩⟩)
  rw [hnew]
  exact ⟨.ref _, _, I.lnew (t' := s.toks) (r.rep k.toNat) (by rw [PyProof.Rows.lm_len_rep_flat, Nat.mul_comm]; exact hz), rfl, q _ I.fresh⟩
end
theorem RepL.rep {K : PySem.W.Frag} {F : Ad} {H : Hp} {vs : List V} {ds : List D} (h : RepL K F H vs ds) : ∀ n : Nat, RepL K F H (List.replicate n vs).flatten (List.replicate n ds).flatten
  | 0 => by simpa using RepL.nil
  | n + 1 => by
    rw [List.replicate_succ, List.replicate_succ, List.flatten_cons, List.flatten_cons]
    exact h.append (RepL.rep h n)
end DL

set_option Elab.async false
set_option linter.all false
set_option maxRecDepth 100000
set_option maxHeartbeats 2000000
namespace DL
open PySem PySem.Spec PyProof.Rows L2
section
variable {X : Cx}
theorem RepL.nil_iff {K : PySem.W.Frag} {F : Ad} {H : Hp} {vs : List V} {ds : List D} (h : RepL K F H vs ds) : vs = [] ↔ ds = [] := by
  have := h.length
  constructor
  · intro e; subst e; cases ds with
    | nil => rfl
    | cons _ _ => simp at this
  · intro e; subst e; cases vs with
    | nil => rfl
    | cons _ _ => simp at this
theorem opp_add : OpR X (binaryOp .Add) (RB X.K .add) := by
  intro pins s σ H x y v u Q I rx ry h
  obtain ⟨F, d, e, z, tr, hd, he, hp, q⟩ := h
  cases d <;> cases e <;> simp only [primD] at hp <;> first | cases hp | skip
  · exact op_add pins s σ H x y v u Q I rx ry ⟨_, _, hd.int', he.int', q.val0 (Rep.int _)⟩
  · split at hp <;> cases hp
    exact op_add_str pins s σ H x y v u Q I rx ry ⟨_, _, hd.str', he.str', by rw [nat_sl]; assumption, q.val0 (Rep.str _)⟩
  · split at hp <;> cases hp
    rename_i hz
    obtain ⟨a, vs, rfl, h1, h2⟩ := hd.tup'
    obtain ⟨b, ws, rfl, h3, h4⟩ := he.tup'
    refine op_catA pins s σ H _ _ v u Q I rx ry ⟨a, b, vs, ws, rfl, rfl, h1.sq, h3.sq, by rw [nat_sl, h2.length, h4.length]; exact hz, fun e => ?_, fun _ e => ?_, fun _ _ => q.tup tr (h2.append h4)⟩
    · rw [h2.nil_iff] at e; subst e
      exact q.val0 (Rep.tup h3 (by simpa using h4))
    · rw [h4.nil_iff] at e; subst e
      exact q.val0 (Rep.tup h1 (by simpa using h2))
  · split at hp <;> cases hp
    rename_i hz
    obtain ⟨a, vs, rfl, h1, h2⟩ := hd
    obtain ⟨b, ws, rfl, h3, h4⟩ := he
    exact op_catL pins s σ H _ _ v u Q I rx ry ⟨a, b, vs, ws, rfl, rfl, h1, h3, by rw [nat_sl, h2.length, h4.length]; exact hz, fun p n => q p _ n (h2.append h4)⟩
theorem opp_sub : OpR X (binaryOp .Sub) (RB X.K .sub) := by
  intro pins s σ H x y v u Q I rx ry h
  obtain ⟨F, d, e, z, tr, hd, he, hp, q⟩ := h
  cases d <;> cases e <;> simp only [primD] at hp <;> first | cases hp | skip
  exact op_sub pins s σ H x y v u Q I rx ry ⟨_, _, hd.int', he.int', q.val0 (Rep.int _)⟩
theorem opp_mul : OpR X (binaryOp .Mult) (RB X.K .mul) := by
  intro pins s σ H x y v u Q I rx ry h
  obtain ⟨F, d, e, z, tr, hd, he, hp, q⟩ := h
  cases d <;> cases e <;> simp only [primD] at hp <;> first | cases hp | skip
  · split at hp <;> cases hp
    exact op_mulA pins s σ H x y v u Q I rx ry ⟨_, _, hd.int', he.int', by assumption, q.val0 (Rep.int _)⟩
  · split at hp <;> cases hp
    rename_i hz
    simp only [decide_eq_true_eq] at hz
    obtain ⟨a, vs, rfl, h1, h2⟩ := hd.tup'
    exact op_repT pins s σ H _ _ v u Q I rx ry ⟨a, _, vs, rfl, he.int', h1.sq, fun e => hz.2.2.2 (h2.nil_iff.mp e), hz.1, hz.2.1, by rw [h2.length]; exact hz.2.2.1, q.tup tr (h2.rep _)⟩
  · split at hp <;> cases hp
    rename_i hz
    simp only [Bool.and_eq_true, decide_eq_true_eq] at hz
    obtain ⟨a, vs, rfl, h1, h2⟩ := hd
    exact op_repL pins s σ H _ _ v u Q I rx ry ⟨a, _, vs, rfl, he.int', h1, by omega, by omega, by rw [nat_sl, h2.length]; exact hz.2, fun p n => q p _ n (h2.rep _)⟩
theorem opp_fdiv : OpR X (binaryOp .FloorDiv) (RB X.K .fdiv) := by
  intro pins s σ H x y v u Q I rx ry h
  obtain ⟨F, d, e, z, tr, hd, he, hp, q⟩ := h
  cases d <;> cases e <;> simp only [primD] at hp <;> first | cases hp | skip
  split at hp <;> cases hp
  exact op_fdivA pins s σ H x y v u Q I rx ry ⟨_, _, hd.int', he.int', by assumption, q.val0 (Rep.int _)⟩
theorem opp_mod : OpR X (binaryOp .Mod) (RB X.K .mod) := by
  intro pins s σ H x y v u Q I rx ry h
  obtain ⟨F, d, e, z, tr, hd, he, hp, q⟩ := h
  cases d <;> cases e <;> simp only [primD] at hp <;> first | cases hp | skip
  split at hp <;> cases hp
  exact op_modN pins s σ H x y v u Q I rx ry ⟨_, _, hd.int', he.int', by assumption, q.val0 (Rep.int _)⟩
theorem opp_pow : OpR X (binaryOp .Pow) (RB X.K .pow) := by
  intro pins s σ H x y v u Q I rx ry h
  obtain ⟨F, d, e, z, tr, hd, he, hp, q⟩ := h
  cases d <;> cases e <;> simp only [primD] at hp <;> first | cases hp | skip
  split at hp <;> cases hp
  exact op_pow pins s σ H x y v u Q I rx ry ⟨_, _, hd.int', he.int', by assumption, q.val0 (Rep.int _)⟩
theorem opp_eq (hu : X.A.units + 64 < cLine) : OpR X (compareOp .Eq) (RB X.K .eq) := by
  intro pins s σ H x y v u Q I rx ry h
  obtain ⟨F, d, e, z, tr, hd, he, hp, q⟩ := h
  simp only [primD] at hp
  split at hp <;> cases hp
  rename_i hz
  simp only [Bool.and_eq_true] at hz
  exact op_eqD hu pins s σ H x y v u Q I rx ry ⟨_, _, hd.dp, he.dp, hz.1, hz.2, q.val0 (Rep.bl _)⟩
theorem opp_ne (hu : X.A.units + 64 < cLine) : OpR X (compareOp .NotEq) (RB X.K .ne) := by
  intro pins s σ H x y v u Q I rx ry h
  obtain ⟨F, d, e, z, tr, hd, he, hp, q⟩ := h
  simp only [primD] at hp
  split at hp <;> cases hp
  rename_i hz
  simp only [Bool.and_eq_true] at hz
  exact op_neD hu pins s σ H x y v u Q I rx ry ⟨_, _, hd.dp, he.dp, hz.1, hz.2, q.val0 (Rep.bl _)⟩
theorem opp_lt : OpR X (compareOp .Lt) (RB X.K .lt) := by
  intro pins s σ H x y v u Q I rx ry h
  obtain ⟨F, d, e, z, tr, hd, he, hp, q⟩ := h
  cases d <;> cases e <;> simp only [primD] at hp <;> first | cases hp | skip
  exact op_lt pins s σ H x y v u Q I rx ry ⟨_, _, hd.int', he.int', q.val0 (Rep.bl _)⟩
theorem opp_le : OpR X (compareOp .LtE) (RB X.K .le) := by
  intro pins s σ H x y v u Q I rx ry h
  obtain ⟨F, d, e, z, tr, hd, he, hp, q⟩ := h
  cases d <;> cases e <;> simp only [primD] at hp <;> first | cases hp | skip
  exact op_le pins s σ H x y v u Q I rx ry ⟨_, _, hd.int', he.int', q.val0 (Rep.bl _)⟩
theorem opp_gt : OpR X (compareOp .Gt) (RB X.K .gt) := by
  intro pins s σ H x y v u Q I rx ry h
  obtain ⟨F, d, e, z, tr, hd, he, hp, q⟩ := h
  cases d <;> cases e <;> simp only [primD] at hp <;> first | cases hp | skip
  exact op_gt pins s σ H x y v u Q I rx ry ⟨_, _, hd.int', he.int', q.val0 (Rep.bl _)⟩
theorem opp_ge : OpR X (compareOp .GtE) (RB X.K .ge) := by
  intro pins s σ H x y v u Q I rx ry h
  obtain ⟨F, d, e, z, tr, hd, he, hp, q⟩ := h
  cases d <;> cases e <;> simp only [primD] at hp <;> first | cases hp | skip
  exact op_ge pins s σ H x y v u Q I rx ry ⟨_, _, hd.int', he.int', q.val0 (Rep.bl _)⟩
theorem Pk.is_non {K : PySem.W.Frag} {F : Ad} {H : Hp} {v : V} {d : D} (h : Pk K F H v d) : decide (v = .non) = isNonD d := by
  cases d with
  | non => rw [h.non']; rfl
  | bl b => rw [h.bl']; rfl
  | int i => rw [h.int']; rfl
  | str x => rw [h.str']; rfl
  | tup ds => obtain ⟨a, vs, rfl, _⟩ := h.tup'; rfl
  | lst ds => obtain ⟨a, vs, rfl, _⟩ := h; rfl
theorem opp_is : OpR X (compareOp .Is) (RB X.K .iz) := by
  intro pins s σ H x y v u Q I rx ry h
  obtain ⟨F, d, e, z, tr, hd, he, hp, q⟩ := h
  cases e with
  | non =>
    simp only [primD] at hp
    cases hp
    refine op_isN pins s σ H x y v u Q I rx ry ⟨he.non', ?_⟩
    rw [hd.is_non]
    exact q.val0 (Rep.bl _)
  | bl b =>
    cases d <;> simp only [primD] at hp <;> first | cases hp | skip
    exact op_isBl pins s σ H x y v u Q I rx ry ⟨_, b, hd.bl', he.bl', q.val0 (Rep.bl _)⟩
  | _ => cases d <;> simp [primD] at hp
theorem opp_isnot : OpR X (compareOp .IsNot) (RB X.K .izn) := by
  intro pins s σ H x y v u Q I rx ry h
  obtain ⟨F, d, e, z, tr, hd, he, hp, q⟩ := h
  cases e with
  | non =>
    simp only [primD] at hp
    cases hp
    refine op_notN pins s σ H x y v u Q I rx ry ⟨he.non', ?_⟩
    rw [hd.is_non]
    exact q.val0 (Rep.bl _)
  | bl b =>
    cases d <;> simp only [primD] at hp <;> first | cases hp | skip
    exact op_notBl pins s σ H x y v u Q I rx ry ⟨_, b, hd.bl', he.bl', q.val0 (Rep.bl _)⟩
  | _ => cases d <;> simp [primD] at hp
def dv : D → V
  | .bl b => .bl b | .int i => .int i | .str x => .str x | _ => .non
theorem Pk.dv {K : PySem.W.Frag} {F : Ad} {H : Hp} {v : V} {d : D} (h : Pk K F H v d) (f : flatD d = true) : v = dv d := by
  cases d with
  | non => exact h.non'
  | bl b => exact h.bl'
  | int i => exact h.int'
  | str x => exact h.str'
  | tup ds => cases f
  | lst ds => cases f
theorem Pk.flat {K : PySem.W.Frag} {F : Ad} {H : Hp} {v : V} {d : D} (h : Pk K F H v d) (f : flatD d = true) : flatV v = true := by
  rw [h.dv f]
  cases d <;> first | exact absurd f Bool.false_ne_true | rfl
theorem Rep.eqv {K : PySem.W.Frag} {F : Ad} {H : Hp} {v w : V} {d e : D} (h : Pk K F H v d) (g : Pk K F H w e) (f : flatD d = true) (f' : flatD e = true) : eqV w v = eqD e d := by
  rw [h.dv f, g.dv f']
  cases d <;> cases e <;> first | exact absurd f Bool.false_ne_true | exact absurd f' Bool.false_ne_true | rfl
theorem RepL.flat {K : PySem.W.Frag} {F : Ad} {H : Hp} : ∀ {ds : List D} {vs : List V}, RepL K F H vs ds → ds.all flatD = true → vs.all flatV = true
  | [], vs, h, _ => by rw [RepL] at h; subst h; rfl
  | d :: ds, vs, h, f => by
    rw [RepL] at h
    obtain ⟨v, r, rfl, h1, h2⟩ := h
    simp only [List.all_cons, Bool.and_eq_true] at f ⊢
    exact ⟨Pk.flat h1.pk f.1, RepL.flat h2 f.2⟩
theorem RepL.inv {K : PySem.W.Frag} {F : Ad} {H : Hp} {v : V} {d : D} (h : Pk K F H v d) (f : flatD d = true) : ∀ {ds : List D} {vs : List V}, RepL K F H vs ds → ds.all flatD = true → inV v vs = ds.any fun e => eqD e d
  | [], vs, h', _ => by rw [RepL] at h'; subst h'; rfl
  | e :: ds, vs, h', g => by
    rw [RepL] at h'
    obtain ⟨w, r, rfl, h1, h2⟩ := h'
    simp only [List.all_cons, Bool.and_eq_true] at g
    have ih := RepL.inv h f h2 g.2
    unfold inV at ih ⊢
    rw [List.any_cons, List.any_cons, ih, Rep.eqv h h1.pk f g.1]
theorem opp_in (hu : X.A.units + 65 < cLine) : OpR X (compareOp .In) (RB X.K .isin) := by
  intro pins s σ H x y v u Q I rx ry h
  obtain ⟨F, d, e, z, tr, hd, he, hp, q⟩ := h
  cases e <;> simp only [primD] at hp <;> first | cases hp | skip
  all_goals
    split at hp <;> cases hp
    rename_i hz
    simp only [Bool.and_eq_true, Bool.or_eq_true] at hz
  · obtain ⟨a, vs, rfl, h1, h2⟩ := he.tup'
    refine op_in_seq pins s σ H x _ v u Q I rx ry ⟨a, vs, rfl, .inr h1.sq, Pk.flat hd hz.1, h2.flat hz.2, ?_⟩
    rw [if_neg Bool.false_ne_true, RepL.inv hd hz.1 h2 hz.2]
    exact q.val0 (Rep.bl _)
  · have he0 := he
    obtain ⟨a, vs, rfl, h1, h2⟩ := he
    rcases hz with hz | hz
    · refine op_in_seq pins s σ H x _ v u Q I rx ry ⟨a, vs, rfl, .inl h1, Pk.flat hd hz.1, h2.flat hz.2, ?_⟩
      rw [if_neg Bool.false_ne_true, RepL.inv hd hz.1 h2 hz.2]
      exact q.val0 (Rep.bl _)
    · rename_i xs
      have e1 : toPy (.lst xs) = .list (toPyL xs) := by rw [toPy]
      have hq := he0.dp
      have hz2 := hz.2
      unfold okEq at hz2
      rw [e1] at hq hz2
      refine op_inD hu pins s σ H x _ v u Q I rx ry ⟨toPy d, toPyL xs, hd.dp, hq, hz.1, hz2, ?_⟩
      have e2 : ∀ xs : List D, (toPyL xs).any (fun z => PyData.eqv z (toPy d)) = xs.any fun e => eqD e d := fun xs => by
        induction xs with
        | nil => rw [toPyL]; rfl
        | cons x xs ih => rw [toPyL, List.any_cons, List.any_cons, ih]; rfl
      rw [e2]
      exact q.val0 (Rep.bl _)
theorem opp_notin (hu : X.A.units + 65 < cLine) : OpR X (compareOp .NotIn) (RB X.K .notin) := by
  intro pins s σ H x y v u Q I rx ry h
  obtain ⟨F, d, e, z, tr, hd, he, hp, q⟩ := h
  cases e <;> simp only [primD] at hp <;> first | cases hp | skip
  all_goals
    split at hp <;> cases hp
    rename_i hz
    simp only [Bool.and_eq_true, Bool.or_eq_true] at hz
  · obtain ⟨a, vs, rfl, h1, h2⟩ := he.tup'
    refine op_notIn_seq pins s σ H x _ v u Q I rx ry ⟨a, vs, rfl, .inr h1.sq, Pk.flat hd hz.1, h2.flat hz.2, ?_⟩
    rw [if_pos rfl, RepL.inv hd hz.1 h2 hz.2]
    exact q.val0 (Rep.bl _)
  · have he0 := he
    obtain ⟨a, vs, rfl, h1, h2⟩ := he
    rcases hz with hz | hz
    · refine op_notIn_seq pins s σ H x _ v u Q I rx ry ⟨a, vs, rfl, .inl h1, Pk.flat hd hz.1, h2.flat hz.2, ?_⟩
      rw [if_pos rfl, RepL.inv hd hz.1 h2 hz.2]
      exact q.val0 (Rep.bl _)
    · rename_i xs
      have e1 : toPy (.lst xs) = .list (toPyL xs) := by rw [toPy]
      have hq := he0.dp
      have hz2 := hz.2
      unfold okEq at hz2
      rw [e1] at hq hz2
      refine op_notInD hu pins s σ H x _ v u Q I rx ry ⟨toPy d, toPyL xs, hd.dp, hq, hz.1, hz2, ?_⟩
      have e2 : ∀ xs : List D, (toPyL xs).any (fun z => PyData.eqv z (toPy d)) = xs.any fun e => eqD e d := fun xs => by
        induction xs with
        | nil => rw [toPyL]; rfl
        | cons x xs ih => rw [toPyL, List.any_cons, List.any_cons, ih]; rfl
      rw [e2]
      exact q.val0 (Rep.bl _)
theorem opp_neg : UnR X (unaryOp .USub) (fun x H Q => ∃ (F : Ad) (d : D) (s : Sl), Trk F H ∧ Pk X.K F H x d ∧ primD .neg [d] = some s ∧ FinP X.K F H Q s) := by
  intro pins s σ H x v Q I rx h
  obtain ⟨F, d, z, tr, hd, hp, q⟩ := h
  cases d <;> simp only [primD] at hp <;> first | cases hp | skip
  exact un_neg pins s σ H x v Q I rx ⟨_, hd.int', q.val0 (Rep.int _)⟩
theorem atI_map {ds : List D} {vs : List V} {K : PySem.W.Frag} {F : Ad} {H : Hp} {i : Int} {d : D} (r : RepL K F H vs ds) (h : atI ds i = some d) : ∃ v, atI vs i = some v ∧ Rep K F H v d := by
  unfold atI at h ⊢
  rw [r.length]
  cases e : ixN ds.length i with
  | none => rw [e] at h; cases h
  | some j =>
    rw [e] at h
    exact r.get' h
theorem ixp : IxR X (RB X.K .ix) := by
  intro value slice pins s σ H x y v u Q I rx ry h hs
  obtain ⟨F, d, e, z, tr, hd, he, hp, q⟩ := h
  cases d <;> cases e <;> simp only [primD] at hp <;> first | cases hp | skip
  all_goals
    simp only [Option.map_eq_some_iff] at hp
    obtain ⟨c, hc, rfl⟩ := hp
  · obtain ⟨a, vs, rfl, h1, h2⟩ := hd.tup'
    obtain ⟨w, hw, r⟩ := atI_map h2 hc
    exact ix_tup value slice pins s σ H _ y v u Q I rx ry ⟨a, vs, _, w, rfl, he.int', h1.sq, hw, q.val0 r⟩ hs
  · obtain ⟨a, vs, rfl, h1, h2⟩ := hd
    obtain ⟨w, hw, r⟩ := atI_map h2 hc
    exact ix_list value slice pins s σ H _ y v u Q I rx ry ⟨a, vs, _, w, rfl, he.int', h1, hw, q.val0 r⟩ hs
/-- slices -/
theorem RepL.cut {ds : List D} {vs : List V} {K : PySem.W.Frag} {F : Ad} {H : Hp} (r : RepL K F H vs ds) (lo hi : Option Int) : RepL K F H (cutV vs lo hi) (cutD ds lo hi) := by
  unfold cutV cutD
  rw [r.length]
  exact (r.drop _).take _
def RSl (K : PySem.W.Frag) : V → Option Int → Option Int → Hp → VK → Prop := fun x lo hi H Q => ∃ (F : Ad) (d : D) (s : Sl), Trk F H ∧ Pk K F H x d ∧ slD d (lo, hi) = some s ∧ FinP K F H Q s
theorem slp : SlR X (RSl X.K) := by
  intro pins s σ H x v vl vu lo hi sl Q I rx hs pl pu h
  obtain ⟨F, d, z, tr, hd, hz, q⟩ := h
  unfold slD at hz
  split at hz <;> cases hz
  · obtain ⟨a, vs, rfl, h1, h2⟩ := hd.tup'
    refine sl_tupA pins s σ H _ v vl vu lo hi sl Q I rx hs pl pu ⟨a, vs, rfl, h1.sq, fun e => ?_, fun _ => q.tup tr (h2.cut lo hi)⟩
    have r := h2.cut lo hi
    have ec : cutV vs lo hi = vs := by
      unfold cutV
      rw [e.1, e.2]
      simp
    rw [ec] at r
    exact q.val0 (Rep.tup h1 r)
  · obtain ⟨a, vs, rfl, h1, h2⟩ := hd
    exact sl_list pins s σ H _ v vl vu lo hi sl Q I rx hs pl pu ⟨a, vs, rfl, h1, fun p n => q p _ n (h2.cut lo hi)⟩
end
end DL

set_option Elab.async false
set_option linter.all false
set_option maxRecDepth 100000
set_option maxHeartbeats 2000000
namespace DL
open PySem PySem.Spec PyProof.Rows L2

/-! ## what is wanted behind a reading -/
structure XI where
  f : Exn → Value → Option Addr → Hp → Prop
  tb : Ad
instance : CoeFun XI (fun _ => Exn → Value → Option Addr → Hp → Prop) := ⟨XI.f⟩
structure Cf where
  K : PySem.W.Frag
  Xs : Ad
  W : WX
  xi : XI
  σ : L2.St
section
variable {α β : Type}
def Po (C : Cf) (M : Ad) (H : Hp) (post : α → Loc → Ad → Hp → Prop) : R (α × Loc) → Prop
  | .ok r => ∀ M' H', Step M H M' H' → RepLoc C.xi.tb C.K C.Xs M' C.σ H' r.2 → post r.1 r.2 M' H'
  | .exc x l' => ∀ cls d M' H', Step M H M' H' → RepLoc C.xi.tb C.K C.Xs M' C.σ H' l' → C.xi x cls d H' → C.W cls d C.σ H'
  | .bad => False
variable {C : Cf} {M M' : Ad} {H H' : Hp} {post post' : α → Loc → Ad → Hp → Prop} {r : R (α × Loc)}
theorem Po.shift (h : Po C M H post r) (s : Step M H M' H') : Po C M' H' post r := by
  cases r with
  | ok a => exact fun M2 H2 s2 => h M2 H2 (s.trans s2)
  | exc x l => exact fun cls d M2 H2 s2 => h cls d M2 H2 (s.trans s2)
  | bad => exact h
theorem Po.bind {f : α × Loc → R (β × Loc)} {post : β → Loc → Ad → Hp → Prop} (h : Po C M H post (r.bind f)) : Po C M H (fun a l' M' H' => Po C M' H' post (f (a, l'))) r := by
  cases r with
  | ok a => exact fun M2 H2 s2 rl => Po.shift (show Po C M H post (f a) from h) s2
  | exc x l => exact h
  | bad => exact h
theorem Po.imp (h : Po C M H post r) (g : ∀ a l M' H', Step M H M' H' → RepLoc C.xi.tb C.K C.Xs M' C.σ H' l → post a l M' H' → post' a l M' H') : Po C M H post' r := by
  cases r with
  | ok a => exact fun M2 H2 s2 rl => g _ _ _ _ s2 rl (h M2 H2 s2 rl)
  | exc x l => exact h
  | bad => exact h
end

/-- an item of an argument list -/
def RepA (C : Cf) (M : Ad) (H : Hp) (v : V) : A → Prop
  | .pos i => C.σ[i]? = some (some v)
  | .dat d => Rep C.K (Fb C.Xs M) H v d
def RepAs (C : Cf) (M : Ad) (H : Hp) : List V → List A → Prop
  | [], [] => True
  | v :: vs, a :: as => RepA C M H v a ∧ RepAs C M H vs as
  | _, _ => False
theorem res_pos (l : Loc) (i : Nat) : res l (.pos i) = match l[i]? with
    | some (.val d) => some d
    | some (.own ds) => some (.lst ds)
    | _ => none := rfl
theorem resN_some {l : Loc} {i : Nat} (h : resN l i = true) : ∃ s, l[i]? = some s ∧ s ≠ .un := by
  unfold resN at h
  split at h <;> first | exact ⟨_, by assumption, fun z => by cases z⟩ | cases h
theorem primD_un {p : Prim} {ds : List D} : primD p ds ≠ some .un := by
  intro h
  unfold primD at h
  split at h <;> (try split at h) <;> first | cases h | (rw [Option.map_eq_some_iff] at h; obtain ⟨_, _, e⟩ := h; cases e)
section
variable {C : Cf} {M M' : Ad} {H H' : Hp} {l : Loc} {v : V}
theorem RepA.step {a : A} (s : Step M H M' H') (h : RepA C M H v a) : RepA C M' H' v a := by
  cases a with
  | pos i => exact h
  | dat d => exact Rep.step s h
theorem RepAs.step (s : Step M H M' H') : ∀ {as : List A} {vs : List V}, RepAs C M H vs as → RepAs C M' H' vs as
  | [], [], _ => trivial
  | a :: as, v :: vs, h => ⟨h.1.step s, RepAs.step s h.2⟩
  | [], _ :: _, h => h.elim
  | _ :: _, [], h => h.elim
theorem RepAs.length : ∀ {as : List A} {vs : List V}, RepAs C M H vs as → vs.length = as.length
  | [], [], _ => rfl
  | a :: as, v :: vs, h => by simp [RepAs.length h.2]
  | [], _ :: _, h => h.elim
  | _ :: _, [], h => h.elim
theorem RepA.pk {a : A} {d : D} (r : RepLoc C.xi.tb C.K C.Xs M C.σ H l) (h : RepA C M H v a) (e : res l a = some d) : Pk C.K (Fb C.Xs M) H v d := by
  cases a with
  | dat d' => cases e; exact Rep.pk h
  | pos i =>
    rw [res_pos] at e
    split at e
    · rename_i d' e1
      cases e
      obtain ⟨w, h1, h2⟩ := r.val i _ e1
      have : v = w := by
        have h' : C.σ[i]? = some (some v) := h
        rw [h1] at h'
        simpa using h'.symm
      subst this
      exact h2.pk
    · rename_i ds e1
      cases e
      obtain ⟨a, vs, h1, h2, h3, h4⟩ := r.own i _ e1
      have : v = .ref a := by
        have h' : C.σ[i]? = some (some v) := h
        rw [h1] at h'
        simpa using h'.symm
      subst this
      exact ⟨a, vs, rfl, .inl (.inl h3), h4⟩
    · cases e
theorem RepAs.pk (r : RepLoc C.xi.tb C.K C.Xs M C.σ H l) : ∀ {as : List A} {vs : List V} {ds : List D}, RepAs C M H vs as → resL l as = some ds → PkL C.K (Fb C.Xs M) H vs ds
  | [], [], ds, _, e => by cases e; trivial
  | a :: as, v :: vs, ds, h, e => by
    unfold resL at e
    cases e1 : res l a with
    | none => rw [e1] at e; cases e
    | some d =>
      cases e2 : resL l as with
      | none => rw [e1, e2] at e; cases e
      | some ds' =>
        rw [e1, e2] at e
        cases e
        exact ⟨h.1.pk r e1, RepAs.pk r h.2 e2⟩
  | [], _ :: _, _, h, _ => h.elim
  | _ :: _, [], _, h, _ => h.elim
theorem RepLoc.tr (r : RepLoc C.xi.tb C.K C.Xs M C.σ H l) : Trk (Fb C.Xs M) H := fun a z e => by
  obtain ⟨vs, q⟩ := r.trk a z
  rw [e] at q; cases q
/-- an operation's end -/
theorem fin_of {s : Sl} {Q : VK} (r : RepLoc C.xi.tb C.K C.Xs M C.σ H l) (h : Po C M H (fun s l' M' H' => ∀ v, RepR C.K C.Xs M' C.σ l' H' v s → Q v H') (.ok (s, l))) (hs : s ≠ .un) : FinP C.K (Fb C.Xs M) H Q s := by
  cases s with
  | un => exact absurd rfl hs
  | val d =>
    intro v H' hH rv
    rcases hH with rfl | ⟨p, o, n, rfl⟩
    · exact h M H' Step.refl r v rv
    · exact h M _ (Step.new n) (r.new n) v rv
  | own ds =>
    intro p vs n rv
    refine h _ _ (Step.newM n) (r.newM n) _ ⟨p, vs, rfl, .inr rfl, upd_same, rv.step (Step.newM n), fun z => ?_⟩
    obtain ⟨_, ws, h3⟩ := r.owd_M (z.new r n)
    rw [n] at h3; cases h3
  | nst cs => trivial
end

/-! ## the denotation of a piece of syntax -/
structure PD (X : Cx) (W : WX) (xi : XI) (e : Expr) (d : Loc → R (Sl × Loc)) : Prop where
  ex : ∃ t : TE, PE X e t ∧ ∀ (Xs : Ad) (σ : L2.St) (H : Hp) (l : Loc) (M : Ad) (Q : VK), RepLoc xi.tb X.K Xs M σ H l →
    Po ⟨X.K, Xs, W, xi, σ⟩ M H (fun s l' M' H' => ∀ v, RepR X.K Xs M' σ l' H' v s → Q v H') (d l) → t σ H Q
structure PAD (X : Cx) (W : WX) (xi : XI) (e : Expr) (d : Loc → R (A × Loc)) : Prop where
  ex : ∃ t : TE, PE X e t ∧ ∀ (Xs : Ad) (σ : L2.St) (H : Hp) (l : Loc) (M : Ad) (Q : VK), RepLoc xi.tb X.K Xs M σ H l →
    Po ⟨X.K, Xs, W, xi, σ⟩ M H (fun a l' M' H' => ∀ v, RepA ⟨X.K, Xs, W, xi, σ⟩ M' H' v a → Q v H') (d l) → t σ H Q
structure PTD (X : Cx) (W : WX) (xi : XI) (e : Expr) (d : Loc → R (Bool × Loc)) : Prop where
  ex : ∃ t : TT, PT X e t ∧ ∀ (Xs : Ad) (σ : L2.St) (H : Hp) (l : Loc) (M : Ad) (Q : Bool → Hp → Prop), RepLoc xi.tb X.K Xs M σ H l →
    Po ⟨X.K, Xs, W, xi, σ⟩ M H (fun b l' M' H' => Q b H') (d l) → t σ H Q
/-- argument lists: read late -/
structure PLA (X : Cx) (W : WX) (xi : XI) (es : List Expr) (d : Loc → R (List A × Loc)) : Prop where
  ex : ∃ t : TA, PA X es t ∧ ∀ (Xs : Ad) (σ : L2.St) (H : Hp) (l : Loc) (M : Ad) (Q : List V → Hp → Prop), RepLoc xi.tb X.K Xs M σ H l →
    Po ⟨X.K, Xs, W, xi, σ⟩ M H (fun as l' M' H' => ∀ vs, RepAs ⟨X.K, Xs, W, xi, σ⟩ M' H' vs as → Q vs H') (d l) → t σ H Q
/-- .. as data -/
structure PLD (X : Cx) (W : WX) (xi : XI) (es : List Expr) (d : Loc → R (List D × Loc)) : Prop where
  ex : ∃ t : TA, PA X es t ∧ ∀ (Xs : Ad) (σ : L2.St) (H : Hp) (l : Loc) (M : Ad) (Q : List V → Hp → Prop), RepLoc xi.tb X.K Xs M σ H l →
    Po ⟨X.K, Xs, W, xi, σ⟩ M H (fun ds l' M' H' => ∀ vs, RepL X.K (Fb Xs M') H' vs ds → Q vs H') (d l) → t σ H Q
/-- keywords -/
structure PKA (X : Cx) (W : WX) (xi : XI) (ks : List Keyword) (d : Loc → R (List A × Loc)) : Prop where
  ex : ∃ t : TA, PK X ks t ∧ ∀ (Xs : Ad) (σ : L2.St) (H : Hp) (l : Loc) (M : Ad) (Q : List V → Hp → Prop), RepLoc xi.tb X.K Xs M σ H l →
    Po ⟨X.K, Xs, W, xi, σ⟩ M H (fun as l' M' H' => ∀ vs, RepAs ⟨X.K, Xs, W, xi, σ⟩ M' H' vs as → Q vs H') (d l) → t σ H Q

def evA1 (Γ : Gam) (e : E) (l : Loc) : R (A × Loc) := match e with
  | .var i => (match resN l i with
    | true => .ok (.pos i, l)
    | false => .bad)

  | e => (evX Γ e l).bind fun r => .ok (.dat r.1.d, r.2)
theorem evAs_cons (Γ : Gam) (e : E) (es : List E) (l : Loc) : evAs Γ (e :: es) l = (evA1 Γ e l).bind fun r => (evAs Γ es r.2).bind fun r2 => .ok (r.1 :: r2.1, r2.2) := by
  cases e with
  | var i =>
    rw [evAs.eq_def, evA1]
    dsimp only
    cases resN l i <;> rfl
  | _ =>
    rw [evAs.eq_def]
    dsimp only
    unfold evA1
    dsimp only
    generalize evX Γ _ l = r
    cases r <;> rfl
section
variable {X : Cx} {W : WX} {xi : XI} {Γ : Gam}
theorem PD.pad {e : Expr} {e' : E} (h : PD X W xi e (evX Γ e')) (hv : ∀ i, e' = .var i → ∃ t, PE X e t ∧ t = tVar i) : PAD X W xi e (evA1 Γ e') := by
  by_cases hx : ∃ i, e' = .var i
  · obtain ⟨i, rfl⟩ := hx
    obtain ⟨t, ht, rfl⟩ := hv i rfl
    refine ⟨tVar i, ht, fun Xs σ H l M Q r q => ?_⟩
    unfold evA1 at q
    dsimp only at q
    cases e1 : resN l i with
    | false => rw [e1] at q; exact q.elim
    | true =>
      rw [e1] at q
      have h1 : ∃ v, σ[i]? = some (some v) := by
        obtain ⟨s, e2, hs⟩ := resN_some e1
        obtain ⟨v, h1, _⟩ := r.slot i s e2 hs
        exact ⟨v, h1⟩
      obtain ⟨v, h1⟩ := h1
      exact ⟨v, h1, q M H Step.refl r v h1⟩
  · obtain ⟨t, ht, q⟩ := h.ex
    refine ⟨t, ht, fun Xs σ H l M Q r p => q Xs σ H l M Q r ?_⟩
    have e0 : evA1 Γ e' l = (evX Γ e' l).bind fun r => .ok (.dat r.1.d, r.2) := by
      unfold evA1
      cases e' <;> first | rfl | exact absurd ⟨_, rfl⟩ hx
    rw [e0] at p
    refine p.bind.imp fun s l' M' H' st rl g v rv => ?_
    obtain ⟨M2, hm, rl2, rv2⟩ := RepR.frozen rl rv
    exact g M2 H' (Step.refl.less hm) rl2 v rv2
theorem pla_nil : PLA X W xi [] (evAs Γ []) := ⟨tNil, pa_nil, fun Xs σ H l M Q r q => by
  have e : evAs Γ [] l = .ok ([], l) := by rw [evAs.eq_def]
  rw [e] at q
  exact q M H Step.refl r [] trivial⟩
theorem pla_cons {e : Expr} {es : List Expr} {e' : E} {es' : List E} (h1 : PAD X W xi e (evA1 Γ e')) (h2 : PLA X W xi es (evAs Γ es')) (hs : starEach (e :: es) X.env = (false, eval e X.env) :: starEach es X.env) : PLA X W xi (e :: es) (evAs Γ (e' :: es')) := by
  obtain ⟨t, ht, q⟩ := h1.ex
  obtain ⟨u, hu, p⟩ := h2.ex
  refine ⟨tCons t u, pa_cons ht hu hs, fun Xs σ H l M Q r g => ?_⟩
  rw [evAs_cons] at g
  refine q Xs σ H l M _ r (g.bind.imp fun a l1 M1 H1 st rl g1 v rv => ?_)
  refine p Xs σ H1 l1 M1 _ rl (g1.bind.imp fun as l2 M2 H2 st2 rl2 g2 vs rvs => ?_)
  exact g2 M2 H2 Step.refl rl2 (v :: vs) ⟨rv.step st2, rvs⟩
theorem pka_nil : PKA X W xi [] (evAs Γ []) := ⟨tNil, pk_nil, fun Xs σ H l M Q r q => by
  have e : evAs Γ [] l = .ok ([], l) := by rw [evAs.eq_def]
  rw [e] at q
  exact q M H Step.refl r [] trivial⟩
theorem pka_cons {e : Expr} {nm : Option Str} {kpos : Pos} {ks : List Keyword} {e' : E} {es' : List E} (h1 : PAD X W xi e (evA1 Γ e')) (h2 : PKA X W xi ks (evAs Γ es')) : PKA X W xi (⟨nm, e, kpos⟩ :: ks) (evAs Γ (e' :: es')) := by
  obtain ⟨t, ht, q⟩ := h1.ex
  obtain ⟨u, hu, p⟩ := h2.ex
  refine ⟨tCons t u, pk_cons ht hu, fun Xs σ H l M Q r g => ?_⟩
  rw [evAs_cons] at g
  refine q Xs σ H l M _ r (g.bind.imp fun a l1 M1 H1 st rl g1 v rv => ?_)
  refine p Xs σ H1 l1 M1 _ rl (g1.bind.imp fun as l2 M2 H2 st2 rl2 g2 vs rvs => ?_)
  exact g2 M2 H2 Step.refl rl2 (v :: vs) ⟨rv.step st2, rvs⟩
theorem pld_nil : PLD X W xi [] (evDs Γ []) := ⟨tNil, pa_nil, fun Xs σ H l M Q r q => by
  have e : evDs Γ [] l = .ok ([], l) := by rw [evDs.eq_def]
  rw [e] at q
  exact q M H Step.refl r [] RepL.nil⟩
theorem pld_cons {e : Expr} {es : List Expr} {e' : E} {es' : List E} (h1 : PD X W xi e (evX Γ e')) (h2 : PLD X W xi es (evDs Γ es')) (hs : starEach (e :: es) X.env = (false, eval e X.env) :: starEach es X.env) : PLD X W xi (e :: es) (evDs Γ (e' :: es')) := by
  obtain ⟨t, ht, q⟩ := h1.ex
  obtain ⟨u, hu, p⟩ := h2.ex
  refine ⟨tCons t u, pa_cons ht hu hs, fun Xs σ H l M Q r g => ?_⟩
  have e0 : evDs Γ (e' :: es') l = (evX Γ e' l).bind fun r => (evDs Γ es' r.2).bind fun r2 => .ok (r.1.d :: r2.1, r2.2) := by rw [evDs.eq_def]
  rw [e0] at g
  refine q Xs σ H l M _ r (g.bind.imp fun a l1 M1 H1 st rl g1 v rv => ?_)
  obtain ⟨M1', hm, rl1, rv1⟩ := RepR.frozen rl rv
  refine p Xs σ H1 l1 M1' _ rl1 ((g1.shift (Step.refl.less hm)).bind.imp fun as l2 M2 H2 st2 rl2 g2 vs rvs => ?_)
  exact g2 M2 H2 Step.refl rl2 (v :: vs) (RepL.cons (rv1.step st2) rvs)
/-- an operation upon two values -/
theorem two {a b : Expr} {a' b' : E} {p : Prim} (ha : PAD X W xi a (evA1 Γ a')) (hb : PAD X W xi b (evA1 Γ b')) :
    ∃ ta tb, PE X a ta ∧ PE X b tb ∧ ∀ (Xs : Ad) (σ : L2.St) (H : Hp) (l : Loc) (M : Ad) (Q : VK), RepLoc xi.tb X.K Xs M σ H l →
      Po ⟨X.K, Xs, W, xi, σ⟩ M H (fun s l' M' H' => ∀ v, RepR X.K Xs M' σ l' H' v s → Q v H') (evX Γ (.prim p [a', b']) l) → tOp (RB X.K p) ta tb σ H Q := by
  obtain ⟨ta, hta, qa⟩ := ha.ex
  obtain ⟨tb, htb, qb⟩ := hb.ex
  refine ⟨ta, tb, hta, htb, fun Xs σ H l M Q r g => ?_⟩
  have e0 : evX Γ (.prim p [a', b']) l = ((evA1 Γ a' l).bind fun r => (evA1 Γ b' r.2).bind fun r2 => .ok ([r.1, r2.1], r2.2)).bind fun r => match resL r.2 r.1 with
    | some ds => (match primD p ds with
      | some s => .ok (s, r.2)
      | none => .bad)
    | none => .bad := by
    rw [evX.eq_def]
    dsimp only
    rw [evAs_cons]
    congr 1
    congr 1
    funext r
    rw [evAs_cons]
    cases evA1 Γ b' r.2 with
    | ok r2 => simp [evAs.eq_def]
    | exc x l => rfl
    | bad => rfl
  rw [e0] at g
  refine qa Xs σ H l M _ r (g.bind.bind.imp fun a1 l1 M1 H1 st1 rl1 g1 v rv => ?_)
  refine qb Xs σ H1 l1 M1 _ rl1 (g1.bind.imp fun a2 l2 M2 H2 st2 rl2 g2 w rw => ?_)
  have g3 := g2 M2 H2 Step.refl rl2
  dsimp only at g3
  cases e1 : resL l2 [a1, a2] with
  | none => rw [e1] at g3; exact g3.elim
  | some ds =>
    rw [e1] at g3
    dsimp only at g3
    cases e2 : primD p ds with
    | none => rw [e2] at g3; exact g3.elim
    | some z =>
      rw [e2] at g3
      unfold resL resL resL at e1
      cases r1 : res l2 a1 with
      | none => rw [r1] at e1; cases e1
      | some d1 =>
        rw [r1] at e1
        cases r2 : res l2 a2 with
        | none => rw [r2] at e1; cases e1
        | some d2 =>
          rw [r2] at e1
          cases e1
          refine ⟨Fb Xs M2, d1, d2, z, rl2.tr (C := ⟨X.K, Xs, W, xi, σ⟩), RepA.pk (C := ⟨X.K, Xs, W, xi, σ⟩) rl2 (rv.step st2) r1, RepA.pk (C := ⟨X.K, Xs, W, xi, σ⟩) rl2 rw r2, e2, ?_⟩
          exact fin_of (C := ⟨X.K, Xs, W, xi, σ⟩) rl2 g3 fun z => primD_un (e2.trans (congrArg some z))
end
end DL

set_option Elab.async false
set_option linter.all false
set_option maxRecDepth 100000
set_option maxHeartbeats 2000000
namespace DL
open PySem PySem.Spec PyProof.Rows L2

section
variable {X : Cx}
theorem PkL.one {K : PySem.W.Frag} {F : Ad} {H : Hp} {xs : List V} {ds : List D} {d : D} (h : PkL K F H xs ds) (e : ds = [d]) : ∃ v, xs = [v] ∧ Pk K F H v d := by
  subst e
  match xs, h with
  | [v], h => exact ⟨v, rfl, h.1⟩
theorem PkL.two {K : PySem.W.Frag} {F : Ad} {H : Hp} {xs : List V} {ds : List D} {d e : D} (h : PkL K F H xs ds) (q : ds = [d, e]) : ∃ v w, xs = [v, w] ∧ Pk K F H v d ∧ Pk K F H w e := by
  subst q
  match xs, h with
  | [v, w], h => exact ⟨v, w, rfl, h.1, h.2.1⟩
theorem cp_abs : CallR X (.builtin "abs") (RN X.K .abs) := by
  intro pins s σ H xs us Q I rx h
  obtain ⟨F, ds, z, tr, hd, hp, q⟩ := h
  match ds, hp with
  | [.int i], hp =>
    cases hp
    obtain ⟨v, rfl, k⟩ := hd.one rfl
    rw [k.int'] at rx
    exact call_abs pins s σ H _ us Q I rx ⟨i, rfl, q.val0 (Rep.int _)⟩
theorem cp_int : CallR X (.type "int") (RN X.K .int) := by
  intro pins s σ H xs us Q I rx h
  obtain ⟨F, ds, z, tr, hd, hp, q⟩ := h
  match ds, hp with
  | [.int i], hp =>
    cases hp
    obtain ⟨v, rfl, k⟩ := hd.one rfl
    rw [k.int'] at rx
    exact call_int1 pins s σ H _ us Q I rx (.inl ⟨i, rfl, q.val0 (Rep.int _)⟩)
  | [.bl i], hp =>
    cases hp
    obtain ⟨v, rfl, k⟩ := hd.one rfl
    rw [k.bl'] at rx
    exact call_int1 pins s σ H _ us Q I rx (.inr ⟨i, rfl, q.val0 (Rep.int _)⟩)
theorem cp_len : CallR X (.builtin "len") (RN X.K .len) := by
  intro pins s σ H xs us Q I rx h
  obtain ⟨F, ds, z, tr, hd, hp, q⟩ := h
  match ds, hp with
  | [.tup l], hp =>
    cases hp
    obtain ⟨v, rfl, k⟩ := hd.one rfl
    obtain ⟨a, vs, rfl, h1, h2⟩ := k.tup'
    refine call_len_seq pins s σ H _ us Q I rx ⟨a, vs, rfl, .inr h1.sq, ?_⟩
    rw [h2.length]
    exact q.val0 (Rep.int _)
  | [.lst l], hp =>
    cases hp
    obtain ⟨v, rfl, a, vs, rfl, h1, h2⟩ := hd.one rfl
    refine call_len_seq pins s σ H _ us Q I rx ⟨a, vs, rfl, .inl h1, ?_⟩
    rw [h2.length]
    exact q.val0 (Rep.int _)
theorem cp_list : CallR X (.type "list") (RN X.K .lst) := by
  intro pins s σ H xs us Q I rx h
  obtain ⟨F, ds, z, tr, hd, hp, q⟩ := h
  match ds, hp with
  | [.tup l], hp =>
    cases hp
    obtain ⟨v, rfl, k⟩ := hd.one rfl
    obtain ⟨a, vs, rfl, h1, h2⟩ := k.tup'
    exact call_list_of pins s σ H _ us Q I rx ⟨a, vs, rfl, .inr h1.sq, fun p n => q p vs n h2⟩
  | [.lst l], hp =>
    cases hp
    obtain ⟨v, rfl, a, vs, rfl, h1, h2⟩ := hd.one rfl
    exact call_list_of pins s σ H _ us Q I rx ⟨a, vs, rfl, .inl h1, fun p n => q p vs n h2⟩
theorem cp_tuple : CallR X (.type "tuple") (RN X.K .tup) := by
  intro pins s σ H xs us Q I rx h
  obtain ⟨F, ds, z, tr, hd, hp, q⟩ := h
  match ds, hp with
  | [.tup l], hp =>
    cases hp
    obtain ⟨v, rfl, k⟩ := hd.one rfl
    obtain ⟨a, vs, rfl, h1, h2⟩ := k.tup'
    exact call_tuple_of pins s σ H _ us Q I rx ⟨a, vs, rfl, .inr ⟨h1.sq, q.val0 (Rep.tup h1 h2)⟩⟩
  | [.lst l], hp =>
    cases hp
    obtain ⟨v, rfl, a, vs, rfl, h1, h2⟩ := hd.one rfl
    exact call_tuple_of pins s σ H _ us Q I rx ⟨a, vs, rfl, .inl ⟨h1, q.tup tr h2⟩⟩
theorem repL_intsD {K : PySem.W.Frag} {F : Ad} {H : Hp} : ∀ {ds : List D} {vs : List V} {ns : List Int}, RepL K F H vs ds → intsD ds = some ns → vs = ns.map V.int
  | [], vs, ns, h, e => by
    rw [RepL] at h
    cases e
    exact h
  | d :: ds, vs, ns, h, e => by
    rw [RepL] at h
    obtain ⟨v, r, rfl, h1, h2⟩ := h
    cases d with
    | int i =>
      unfold intsD at e
      rw [Option.map_eq_some_iff] at e
      obtain ⟨ms, e1, rfl⟩ := e
      rw [Rep] at h1
      rw [h1, repL_intsD h2 e1]
      rfl
    | _ => cases e
theorem cp_min (hc : X.calm = true) : CallR X (.builtin "min") (RN X.K .mn) := by
  intro pins s σ H xs us Q I rx h
  obtain ⟨F, ds, z, tr, hd, hp, q⟩ := h
  match ds, hp with
  | [.int i, .int j], hp =>
    cases hp
    obtain ⟨v, w, rfl, k, m⟩ := hd.two rfl
    rw [k.int', m.int'] at rx
    exact call_min2 hc pins s σ H _ us Q I rx ⟨i, j, rfl, q.val0 (Rep.int _)⟩
  | [.lst l], hp =>
    simp only [primD, Option.bind_eq_some_iff, Option.map_eq_some_iff] at hp
    obtain ⟨m, ⟨ns, e1, e2⟩, rfl⟩ := hp
    obtain ⟨v, rfl, a, vs, rfl, h1, h2⟩ := hd.one rfl
    rw [repL_intsD h2 e1] at h1
    have hm := (List.min?_eq_some_iff).mp e2
    refine cr_min hc pins s σ H _ us Q I rx ⟨a, ns, rfl, h1, List.length_pos_iff.mpr (fun z => by rw [z] at e2; cases e2), fun m' hm1 hm2 => ?_⟩
    have : m' = m := Int.le_antisymm (hm2 m hm.1) (hm.2 m' hm1)
    rw [this]
    exact q.val0 (Rep.int _)
theorem cp_max (hc : X.calm = true) : CallR X (.builtin "max") (RN X.K .mx) := by
  intro pins s σ H xs us Q I rx h
  obtain ⟨F, ds, z, tr, hd, hp, q⟩ := h
  match ds, hp with
  | [.int i, .int j], hp =>
    cases hp
    obtain ⟨v, w, rfl, k, m⟩ := hd.two rfl
    rw [k.int', m.int'] at rx
    exact call_max2 hc pins s σ H _ us Q I rx ⟨i, j, rfl, q.val0 (Rep.int _)⟩
  | [.lst l], hp =>
    simp only [primD, Option.bind_eq_some_iff, Option.map_eq_some_iff] at hp
    obtain ⟨m, ⟨ns, e1, e2⟩, rfl⟩ := hp
    obtain ⟨v, rfl, a, vs, rfl, h1, h2⟩ := hd.one rfl
    rw [repL_intsD h2 e1] at h1
    have hm := (List.max?_eq_some_iff).mp e2
    refine cr_max hc pins s σ H _ us Q I rx ⟨a, ns, rfl, h1, List.length_pos_iff.mpr (fun z => by rw [z] at e2; cases e2), fun m' hm1 hm2 => ?_⟩
    have : m' = m := Int.le_antisymm (hm.2 m' hm1) (hm2 m hm.1)
    rw [this]
    exact q.val0 (Rep.int _)
theorem cp_sum (hc : X.calm = true) : CallR X (.builtin "sum") (RN X.K .sum) := by
  intro pins s σ H xs us Q I rx h
  obtain ⟨F, ds, z, tr, hd, hp, q⟩ := h
  match ds, hp with
  | [.lst l], hp =>
    simp only [primD, Option.map_eq_some_iff] at hp
    obtain ⟨ns, e1, rfl⟩ := hp
    obtain ⟨v, rfl, a, vs, rfl, h1, h2⟩ := hd.one rfl
    rw [repL_intsD h2 e1] at h1
    exact cr_sum hc pins s σ H _ us Q I rx ⟨a, ns, rfl, h1, q.val0 (Rep.int _)⟩
def istN : Nat → String
  | 0 => "int" | 1 => "bool" | 2 => "str" | 3 => "tuple" | _ => "list"
theorem kit_all (T : Nat) (d : D) (h : T < 5) : kitB (tyN d) (istN T) = some (istD T d) := by
  match T, h with
  | 0, _ => cases d <;> (simp only [tyN, istN, istD]; decide +kernel)
  | 1, _ => cases d <;> (simp only [tyN, istN, istD]; decide +kernel)
  | 2, _ => cases d <;> (simp only [tyN, istN, istD]; decide +kernel)
  | 3, _ => cases d <;> (simp only [tyN, istN, istD]; decide +kernel)
  | 4, _ => cases d <;> (simp only [tyN, istN, istD]; decide +kernel)
/-- isinstance(x, T) -/
def RIs (K : PySem.W.Frag) (T : Nat) : List V → Hp → VK → Prop := fun xs H Q => ∃ (F : Ad) (d : D) (v : V) (s : Sl), xs = [v, .ty (istN T)] ∧ Trk F H ∧ Pk K F H v d ∧ primD (.ist T) [d] = some s ∧ FinP K F H Q s
theorem cp_isi {T : Nat} : CallR X (.builtin "isinstance") (RIs X.K T) := by
  intro pins s σ H xs us Q I rx h
  obtain ⟨F, d, v, z, rfl, tr, hd, hp, q⟩ := h
  simp only [primD] at hp
  split at hp <;> cases hp
  rename_i hT
  exact call_isi pins s σ H _ us Q I rx ⟨v, .ty (istN T), .type (tyN d), .type (istN T), istD T d, rfl, .ty _, hd.ty, kit_ty (kit_all T d hT), q.val0 (Rep.bl _)⟩
end

section
variable {X : Cx} {W : WX} {xi : XI} {Γ : Gam}
/-- a call of a built-in with values -/
theorem many {es : List Expr} {es' : List E} {p : Prim} (h : PLA X W xi es (evAs Γ es')) :
    ∃ t, PA X es t ∧ ∀ (Xs : Ad) (σ : L2.St) (H : Hp) (l : Loc) (M : Ad) (Q : VK), RepLoc xi.tb X.K Xs M σ H l →
      Po ⟨X.K, Xs, W, xi, σ⟩ M H (fun s l' M' H' => ∀ v, RepR X.K Xs M' σ l' H' v s → Q v H') (evX Γ (.prim p es') l) → tCB (RN X.K p) t σ H Q := by
  obtain ⟨t, ht, q⟩ := h.ex
  refine ⟨t, ht, fun Xs σ H l M Q r g => ?_⟩
  rw [evX.eq_def] at g
  dsimp only at g
  refine q Xs σ H l M _ r (g.bind.imp fun as l1 M1 H1 st1 rl1 g1 vs rv => ?_)
  dsimp only at g1
  cases e1 : resL l1 as with
  | none => rw [e1] at g1; exact g1.elim
  | some ds =>
    rw [e1] at g1
    dsimp only at g1
    cases e2 : primD p ds with
    | none => rw [e2] at g1; exact g1.elim
    | some z =>
      rw [e2] at g1
      exact ⟨Fb Xs M1, ds, z, rl1.tr (C := ⟨X.K, Xs, W, xi, σ⟩), RepAs.pk (C := ⟨X.K, Xs, W, xi, σ⟩) rl1 rv e1, e2, fin_of (C := ⟨X.K, Xs, W, xi, σ⟩) rl1 g1 fun z => primD_un (e2.trans (congrArg some z))⟩
/-- .. with one value -/
theorem sole {a : Expr} {a' : E} {p : Prim} (h : PAD X W xi a (evA1 Γ a')) :
    ∃ t, PE X a t ∧ ∀ (Xs : Ad) (σ : L2.St) (H : Hp) (l : Loc) (M : Ad) (Q : VK), RepLoc xi.tb X.K Xs M σ H l →
      Po ⟨X.K, Xs, W, xi, σ⟩ M H (fun s l' M' H' => ∀ v, RepR X.K Xs M' σ l' H' v s → Q v H') (evX Γ (.prim p [a']) l) →
      t σ H fun x H1 => ∃ (F : Ad) (d : D) (s : Sl), Trk F H1 ∧ Pk X.K F H1 x d ∧ primD p [d] = some s ∧ FinP X.K F H1 Q s := by
  obtain ⟨t, ht, q⟩ := h.ex
  refine ⟨t, ht, fun Xs σ H l M Q r g => ?_⟩
  have e0 : evX Γ (.prim p [a']) l = (evA1 Γ a' l).bind fun r => match res r.2 r.1 with
    | some d => (match primD p [d] with
      | some s => .ok (s, r.2)
      | none => .bad)
    | none => .bad := by
    rw [evX.eq_def]
    dsimp only
    rw [evAs_cons]
    cases evA1 Γ a' l with
    | ok r2 =>
      simp only [R.bind, evAs.eq_def, resL]
      cases res r2.2 r2.1 <;> rfl
    | exc x l => rfl
    | bad => rfl
  rw [e0] at g
  refine q Xs σ H l M _ r (g.bind.imp fun a l1 M1 H1 st1 rl1 g1 v rv => ?_)
  dsimp only at g1
  cases e1 : res l1 a with
  | none => rw [e1] at g1; exact g1.elim
  | some d =>
    rw [e1] at g1
    dsimp only at g1
    cases e2 : primD p [d] with
    | none => rw [e2] at g1; exact g1.elim
    | some z =>
      rw [e2] at g1
      exact ⟨Fb Xs M1, d, z, rl1.tr (C := ⟨X.K, Xs, W, xi, σ⟩), RepA.pk (C := ⟨X.K, Xs, W, xi, σ⟩) rl1 rv e1, e2, fin_of (C := ⟨X.K, Xs, W, xi, σ⟩) rl1 g1 fun z => primD_un (e2.trans (congrArg some z))⟩

theorem RepR.ofVal {K : PySem.W.Frag} {X M : Ad} {σ : L2.St} {l : Loc} {H : Hp} {v : V} {d : D} (h : Rep K (Fb X M) H v d) : RepR K X M σ l H v (.val d) := h
/-! ## each form of an expression -/
theorem pd_cst {e : Expr} {d : D} {v : V} (h : PE X e (tC v)) (r : ∀ F H, Rep X.K F H v d) : PD X W xi e (evX Γ (.cst d)) := ⟨tC v, h, fun Xs σ H l M Q rl g => by
  rw [evX.eq_def] at g
  exact g M H Step.refl rl v (r _ _)⟩
theorem pd_var {e : Expr} {i : Nat} (h : PE X e (tVar i)) : PD X W xi e (evX Γ (.var i)) := ⟨tVar i, h, fun Xs σ H l M Q rl g => by
  rw [evX.eq_def] at g
  dsimp only at g
  cases e1 : l[i]? with
  | none => rw [e1] at g; exact g.elim
  | some s =>
    rw [e1] at g
    cases s with
    | un => exact g.elim
    | val d =>
      obtain ⟨v, h1, h2⟩ := rl.val i d e1
      exact ⟨v, h1, g M H Step.refl rl v h2⟩
    | own ds =>
      obtain ⟨M', hm, rl2, v, h1, h2⟩ := rl.demote e1
      exact ⟨v, h1, g M' H (Step.refl.less hm) rl2 v h2⟩
    | nst cs => exact g.elim⟩
/-- .. frozen -/
theorem pd_frz {e : Expr} {i : Nat} (h : PE X e (tVar i)) : PD X W xi e (evX Γ (.frz i)) := ⟨tVar i, h, fun Xs σ H l M Q rl g => by
  rw [evX.eq_def] at g
  dsimp only at g
  cases e1 : l[i]? with
  | none => rw [e1] at g; exact g.elim
  | some s =>
    rw [e1] at g
    cases s with
    | un => exact g.elim
    | val d =>
      obtain ⟨v, h1, h2⟩ := rl.val i d e1
      exact ⟨v, h1, g M H Step.refl rl v h2⟩
    | own ds =>
      obtain ⟨M', hm, rl2, v, h1, h2⟩ := rl.demote e1
      exact ⟨v, h1, g M' H (Step.refl.less hm) rl2 v h2⟩
    | nst cs =>
      obtain ⟨M', hm, rl2, v, h1, h2⟩ := rl.demoteS e1 (fun z => by cases z)
      exact ⟨v, h1, g M' H (Step.refl.less hm) rl2 v h2⟩⟩
/-- .. handed out -/
theorem pd_mov {e : Expr} {i : Nat} (h : PE X e (tVar i)) : PD X W xi e (evX Γ (.mov i)) := ⟨tVar i, h, fun Xs σ H l M Q rl g => by
  rw [evX.eq_def] at g
  dsimp only at g
  cases e1 : l[i]? with
  | none => rw [e1] at g; exact g.elim
  | some s =>
    rw [e1] at g
    cases s with
    | un => exact g.elim
    | val d =>
      obtain ⟨v, h1, h2⟩ := rl.val i d e1
      exact ⟨v, h1, g M H Step.refl rl v h2⟩
    | own ds =>
      obtain ⟨v, h1, rl2, h2⟩ := rl.take e1 (fun z => by cases z)
      exact ⟨v, h1, g M H Step.refl rl2 v h2⟩
    | nst cs =>
      obtain ⟨v, h1, rl2, h2⟩ := rl.take e1 (fun z => by cases z)
      exact ⟨v, h1, g M H Step.refl rl2 v h2⟩⟩
theorem pd_bin {a b : Expr} {a' b' : E} {p : Prim} {op : Operator} {pos : Pos} (o : OpR X (binaryOp op) (RB X.K p)) (ha : PAD X W xi a (evA1 Γ a')) (hb : PAD X W xi b (evA1 Γ b')) : PD X W xi (.BinOp a op b pos) (evX Γ (.prim p [a', b'])) := by
  obtain ⟨ta, tb, h1, h2, q⟩ := two (p := p) ha hb
  exact ⟨_, pe_op o h1 h2, q⟩
theorem pd_cmp {a b : Expr} {a' b' : E} {p : Prim} {op : CmpOp} {pos : Pos} (o : OpR X (compareOp op) (RB X.K p)) (ha : PAD X W xi a (evA1 Γ a')) (hb : PAD X W xi b (evA1 Γ b')) (hm : behindInMarks op b = false) : PD X W xi (.Compare a [op] [b] pos) (evX Γ (.prim p [a', b'])) := by
  obtain ⟨ta, tb, h1, h2, q⟩ := two (p := p) ha hb
  exact ⟨_, pe_cmpR o h1 h2 hm, q⟩
theorem pd_ix {a b : Expr} {a' b' : E} {pos : Pos} (ha : PAD X W xi a (evA1 Γ a')) (hb : PAD X W xi b (evA1 Γ b')) (hs : PlainIx b) : PD X W xi (.Subscript a b pos) (evX Γ (.prim .ix [a', b'])) := by
  obtain ⟨ta, tb, h1, h2, q⟩ := two (p := .ix) ha hb
  exact ⟨_, pe_ix ixp h1 h2 hs, q⟩
theorem pd_neg {a : Expr} {a' : E} {pos : Pos} (ha : PAD X W xi a (evA1 Γ a')) : PD X W xi (.UnaryOp .USub a pos) (evX Γ (.prim .neg [a'])) := by
  obtain ⟨ta, h1, q⟩ := sole (p := .neg) ha
  exact ⟨_, pe_un opp_neg h1, q⟩
theorem pd_tup {es : List Expr} {es' : List E} {x1 : Nat} {pos : Pos} (h : PLD X W xi es (evDs Γ es')) : PD X W xi (.Tuple es x1 pos) (evX Γ (.pack true es')) := by
  obtain ⟨t, ht, q⟩ := h.ex
  refine ⟨_, pe_tup ht, fun Xs σ H l M Q rl g => ?_⟩
  rw [evX.eq_def] at g
  dsimp only at g
  refine q Xs σ H l M _ rl (g.bind.imp fun ds l1 M1 H1 st1 rl1 g1 vs rv => ?_)
  dsimp only at g1
  by_cases hz : ds.length ≤ 16777216
  · rw [if_pos hz] at g1
    refine ⟨by rw [rv.length, nat_sl]; exact hz, fun p n => ?_⟩
    have f := fin_of (C := ⟨X.K, Xs, W, xi, σ⟩) rl1 g1 (fun z => by cases z)
    exact FinP.tup (rl1.tr (C := ⟨X.K, Xs, W, xi, σ⟩)) f rv p n
  · rw [if_neg hz] at g1; exact g1.elim
theorem pd_lst {es : List Expr} {es' : List E} {pos : Pos} (h : PLD X W xi es (evDs Γ es')) : PD X W xi (.List es pos) (evX Γ (.pack false es')) := by
  obtain ⟨t, ht, q⟩ := h.ex
  refine ⟨_, pe_lst ht, fun Xs σ H l M Q rl g => ?_⟩
  rw [evX.eq_def] at g
  dsimp only at g
  refine q Xs σ H l M _ rl (g.bind.imp fun ds l1 M1 H1 st1 rl1 g1 vs rv => ?_)
  dsimp only at g1
  by_cases hz : ds.length ≤ 16777216
  · rw [if_pos hz] at g1
    refine ⟨by rw [rv.length, nat_sl]; exact hz, fun p n => ?_⟩
    have f := fin_of (C := ⟨X.K, Xs, W, xi, σ⟩) rl1 g1 (fun z => by cases z)
    exact f p vs n rv
  · rw [if_neg hz] at g1; exact g1.elim
theorem pd_and {a b : Expr} {rest : List Expr} {a' b' : E} {pos : Pos} (ha : PD X W xi a (evX Γ a')) (hb : PD X W xi (.BoolOp .And (b :: rest) pos) (evX Γ b')) : PD X W xi (.BoolOp .And (a :: b :: rest) pos) (evX Γ (.and a' b')) := by
  obtain ⟨t, ht, q⟩ := ha.ex
  obtain ⟨u, hu, p⟩ := hb.ex
  refine ⟨_, pe_and ht hu, fun Xs σ H l M Q rl g => ?_⟩
  rw [evX.eq_def] at g
  dsimp only at g
  refine q Xs σ H l M _ rl (g.bind.imp fun s l1 M1 H1 st1 rl1 g1 v rv => ?_)
  dsimp only at g1
  split at g1
  · have e : v = .bl true := by simpa [RepR, Rep] using rv
    subst e
    exact ⟨true, rfl, p Xs σ H1 l1 M1 Q rl1 g1⟩
  · have e : v = .bl false := by simpa [RepR, Rep] using rv
    subst e
    refine ⟨false, rfl, ?_⟩
    rw [if_neg Bool.false_ne_true]
    exact g1 M1 H1 Step.refl rl1 _ (RepR.ofVal (Rep.bl _))
  · exact g1.elim
theorem pd_or {a b : Expr} {rest : List Expr} {a' b' : E} {pos : Pos} (ha : PD X W xi a (evX Γ a')) (hb : PD X W xi (.BoolOp .Or (b :: rest) pos) (evX Γ b')) : PD X W xi (.BoolOp .Or (a :: b :: rest) pos) (evX Γ (.or a' b')) := by
  obtain ⟨t, ht, q⟩ := ha.ex
  obtain ⟨u, hu, p⟩ := hb.ex
  refine ⟨_, pe_or ht hu, fun Xs σ H l M Q rl g => ?_⟩
  rw [evX.eq_def] at g
  dsimp only at g
  refine q Xs σ H l M _ rl (g.bind.imp fun s l1 M1 H1 st1 rl1 g1 v rv => ?_)
  dsimp only at g1
  split at g1
  · have e : v = .bl false := by simpa [RepR, Rep] using rv
    subst e
    refine ⟨false, rfl, ?_⟩
    rw [if_neg Bool.false_ne_true]
    exact p Xs σ H1 l1 M1 Q rl1 g1
  · have e : v = .bl true := by simpa [RepR, Rep] using rv
    subst e
    refine ⟨true, rfl, ?_⟩
    rw [if_pos rfl]
    exact g1 M1 H1 Step.refl rl1 _ (RepR.ofVal (Rep.bl _))
  · exact g1.elim
theorem pd_not {a : Expr} {a' : E} {pos : Pos} (ha : PD X W xi a (evX Γ a')) : PD X W xi (.UnaryOp .Not a pos) (evX Γ (.not a')) := by
  obtain ⟨t, ht, q⟩ := ha.ex
  refine ⟨_, pe_not ht, fun Xs σ H l M Q rl g => ?_⟩
  rw [evX.eq_def] at g
  dsimp only at g
  refine q Xs σ H l M _ rl (g.bind.imp fun s l1 M1 H1 st1 rl1 g1 v rv => ?_)
  dsimp only at g1
  split at g1
  · rename_i b
    have e : v = .bl b := by simpa [RepR, Rep] using rv
    subst e
    exact ⟨b, rfl, g1 M1 H1 Step.refl rl1 _ (RepR.ofVal (Rep.bl _))⟩
  · exact g1.elim
theorem pd_ite {c a b : Expr} {c' a' b' : E} {pos : Pos} (hc : PTD X W xi c (evT Γ c')) (ha : PD X W xi a (evX Γ a')) (hb : PD X W xi b (evX Γ b')) : PD X W xi (.IfExp c a b pos) (evX Γ (.ite c' a' b')) := by
  obtain ⟨t, ht, q⟩ := ha.ex
  obtain ⟨u, hu, p⟩ := hb.ex
  obtain ⟨w, hw, o⟩ := hc.ex
  refine ⟨_, pe_ifExp hw ht hu, fun Xs σ H l M Q rl g => ?_⟩
  rw [evX.eq_def] at g
  dsimp only at g
  refine o Xs σ H l M _ rl (g.bind.imp fun b l1 M1 H1 st1 rl1 g1 => ?_)
  dsimp only at g1
  cases b with
  | true => exact q Xs σ H1 l1 M1 Q rl1 g1
  | false => exact p Xs σ H1 l1 M1 Q rl1 g1
/-- tests -/
theorem ptd_and1 {a : Expr} {a' : E} {pos : Pos} (ha : PTD X W xi a (evT Γ a')) : ∃ t : TT, PW X (.BoolOp .And [a] pos) t ∧ ∀ (Xs : Ad) (σ : L2.St) (H : Hp) (l : Loc) (M : Ad) (Q : Bool → Hp → Prop), RepLoc xi.tb X.K Xs M σ H l →
    Po ⟨X.K, Xs, W, xi, σ⟩ M H (fun b l' M' H' => Q b H') (evT Γ a' l) → t σ H Q := by
  obtain ⟨t, ht, q⟩ := ha.ex
  exact ⟨t, pw_and1 ht, q⟩
theorem ptd_or1 {a : Expr} {a' : E} {pos : Pos} (ha : PTD X W xi a (evT Γ a')) : ∃ t : TT, PW X (.BoolOp .Or [a] pos) t ∧ ∀ (Xs : Ad) (σ : L2.St) (H : Hp) (l : Loc) (M : Ad) (Q : Bool → Hp → Prop), RepLoc xi.tb X.K Xs M σ H l →
    Po ⟨X.K, Xs, W, xi, σ⟩ M H (fun b l' M' H' => Q b H') (evT Γ a' l) → t σ H Q := by
  obtain ⟨t, ht, q⟩ := ha.ex
  exact ⟨t, pw_or1 ht, q⟩
structure PWD (X : Cx) (W : WX) (xi : XI) (e : Expr) (d : Loc → R (Bool × Loc)) : Prop where
  ex : ∃ t : TT, PW X e t ∧ ∀ (Xs : Ad) (σ : L2.St) (H : Hp) (l : Loc) (M : Ad) (Q : Bool → Hp → Prop), RepLoc xi.tb X.K Xs M σ H l →
    Po ⟨X.K, Xs, W, xi, σ⟩ M H (fun b l' M' H' => Q b H') (d l) → t σ H Q
theorem PWD.ptd {e : Expr} {d : Loc → R (Bool × Loc)} (h : PWD X W xi e d) : PTD X W xi e d := by
  obtain ⟨t, ht, q⟩ := h.ex
  exact ⟨t, ht.pt, q⟩
theorem pwd_and {a b : Expr} {rest : List Expr} {a' b' : E} {pos : Pos} (ha : PTD X W xi a (evT Γ a')) (hb : PWD X W xi (.BoolOp .And (b :: rest) pos) (evT Γ b')) : PWD X W xi (.BoolOp .And (a :: b :: rest) pos) (evT Γ (.and a' b')) := by
  obtain ⟨t, ht, q⟩ := ha.ex
  obtain ⟨u, hu, p⟩ := hb.ex
  refine ⟨_, pw_and ht hu, fun Xs σ H l M Q rl g => ?_⟩
  rw [evT.eq_def] at g
  dsimp only at g
  refine q Xs σ H l M _ rl (g.bind.imp fun b l1 M1 H1 st1 rl1 g1 => ?_)
  cases b with
  | true => exact p Xs σ H1 l1 M1 Q rl1 g1
  | false => exact g1 M1 H1 Step.refl rl1
theorem pwd_or {a b : Expr} {rest : List Expr} {a' b' : E} {pos : Pos} (ha : PTD X W xi a (evT Γ a')) (hb : PWD X W xi (.BoolOp .Or (b :: rest) pos) (evT Γ b')) : PWD X W xi (.BoolOp .Or (a :: b :: rest) pos) (evT Γ (.or a' b')) := by
  obtain ⟨t, ht, q⟩ := ha.ex
  obtain ⟨u, hu, p⟩ := hb.ex
  refine ⟨_, pw_or ht hu, fun Xs σ H l M Q rl g => ?_⟩
  rw [evT.eq_def] at g
  dsimp only at g
  refine q Xs σ H l M _ rl (g.bind.imp fun b l1 M1 H1 st1 rl1 g1 => ?_)
  cases b with
  | true => exact g1 M1 H1 Step.refl rl1
  | false => exact p Xs σ H1 l1 M1 Q rl1 g1
theorem ptd_not {a : Expr} {a' : E} {pos : Pos} (ha : PTD X W xi a (evT Γ a')) : PTD X W xi (.UnaryOp .Not a pos) (evT Γ (.not a')) := by
  obtain ⟨t, ht, q⟩ := ha.ex
  refine ⟨_, pt_not ht, fun Xs σ H l M Q rl g => ?_⟩
  rw [evT.eq_def] at g
  dsimp only at g
  exact q Xs σ H l M _ rl (g.bind.imp fun b l1 M1 H1 st1 rl1 g1 => g1 M1 H1 Step.refl rl1)
theorem ptd_cmp {a b : Expr} {a' b' : E} {p : Prim} {op : CmpOp} {pos : Pos} (o : OpR X (compareOp op) (RB X.K p)) (ha : PAD X W xi a (evA1 Γ a')) (hb : PAD X W xi b (evA1 Γ b')) (hm : behindInMarks op b = false)
    (hp : ∀ ds s, primD p ds = some s → ∃ b, s = .val (.bl b)) : PTD X W xi (.Compare a [op] [b] pos) (evT Γ (.prim p [a', b'])) := by
  obtain ⟨ta, tb, h1, h2, q⟩ := two (p := p) ha hb
  refine ⟨_, pt_cmpR o h1 h2 hm, fun Xs σ H l M Q rl g => q Xs σ H l M _ rl ?_⟩
  rw [evT.eq_def] at g
  rw [evX.eq_def]
  dsimp only at g ⊢
  cases e1 : evAs Γ [a', b'] l with
  | bad => rw [e1] at g; exact g.elim
  | exc x l1 => rw [e1] at g; exact g
  | ok r =>
    rw [e1] at g
    dsimp only [R.bind] at g ⊢
    cases e2 : resL r.2 r.1 with
    | none => rw [e2] at g; exact g.elim
    | some ds =>
      rw [e2] at g
      dsimp only at g ⊢
      cases e3 : primD p ds with
      | none => rw [e3] at g; exact g.elim
      | some z =>
        rw [e3] at g
        obtain ⟨b, rfl⟩ := hp _ _ e3
        dsimp only [Sl.d, truth] at g ⊢
        intro M1 H1 st1 rl1 v rv
        have e : v = .bl b := by simpa [RepR, Rep] using rv
        subst e
        exact ⟨b, rfl, g M1 H1 st1 rl1⟩
/-- a plain value as a test -/
theorem tru_of {K : PySem.W.Frag} {F : Ad} {H : Hp} {v : V} {d : D} {b : Bool} (h : Pk K F H v d) (t : truth d = some b) : TruV K v H b := by
  cases d with
  | non => rw [h.non']; cases t; rfl
  | bl b => rw [h.bl']; cases t; rfl
  | int i => rw [h.int']; cases t; rfl
  | str x =>
    rw [h.str']
    unfold truth at t
    dsimp only at t
    split at t
    · cases t
      exact ⟨by rw [nat_sl]; assumption, rfl⟩
    · cases t
  | tup ds =>
    obtain ⟨a, vs, rfl, h1, h2⟩ := h.tup'
    cases t
    refine .inr (.inl ⟨vs, h1.sq, ?_⟩)
    have := h2.length
    cases vs <;> cases ds <;> simp_all
  | lst ds =>
    obtain ⟨a, vs, rfl, h1, h2⟩ := h
    cases t
    refine .inl ⟨vs, h1, ?_⟩
    have := h2.length
    cases vs <;> cases ds <;> simp_all
def plainT : E → Bool
  | .var _ | .cst _ | .prim _ _ | .call _ _ _ _ => true
  | _ => false
theorem ptd_plain {e : Expr} {e' : E} (h : PAD X W xi e (evA1 Γ e')) (hp : plainT e' = true) (he : ∀ whole, isTrue e X.env whole = (do let v ← whole; standAt e.pos; holding [v] (truthy v))) : PTD X W xi e (evT Γ e') := by
  obtain ⟨t, ht, q⟩ := h.ex
  refine ⟨_, pt_truth ht he, fun Xs σ H l M Q rl g => q Xs σ H l M _ rl ?_⟩
  have e0 : evT Γ e' l = (evA1 Γ e' l).bind fun r => match res r.2 r.1 with
    | some d => (match truth d with | some b => .ok (b, r.2) | none => .bad)
    | none => .bad := by
    cases e' with
    | var i =>
      rw [evT.eq_def]; unfold evA1
      dsimp only
      unfold resN
      rw [res_pos]
      cases e1 : l[i]? with
      | none => rfl
      | some s =>
        cases s with
        | un => rfl
        | val d => simp only [R.bind, res_pos, e1]; all_goals (cases truth d <;> rfl)
        | own ds => simp only [R.bind, res_pos, e1]; all_goals (cases truth (.lst ds) <;> rfl)
        | nst cs => simp only [R.bind, res_pos, e1]
    | cst d =>
      rw [evT.eq_def]; unfold evA1
      dsimp only
      rw [evX.eq_def]
      dsimp only [R.bind, res, Sl.d]
      all_goals (cases truth d <;> rfl)
    | prim p es =>
      rw [evT.eq_def]; unfold evA1
      dsimp only
      rw [evX.eq_def]
      dsimp only
      cases evAs Γ es l with
      | bad => rfl
      | exc x l1 => rfl
      | ok r =>
        dsimp only [R.bind]
        cases resL r.2 r.1 with
        | none => rfl
        | some ds =>
          dsimp only
          cases primD p ds <;> rfl
    | call f rf pm es =>
      rw [evT.eq_def]; unfold evA1
      dsimp only
      rw [evX.eq_def]
      dsimp only
      cases evAs Γ es l with
      | bad => rfl
      | exc x l1 => rfl
      | ok r =>
        dsimp only [R.bind]
        cases argsOf r.2 rf r.1 0 pm with
        | none => rfl
        | some args =>
          dsimp only
          cases Γ f args with
          | bad => rfl
          | exc x l1 => cases rf <;> rfl
          | ok s =>
            dsimp only
            cases after r.2 rf r.1 pm s.1 s.2 <;> rfl
    | _ => cases hp
  rw [e0] at g
  refine g.bind.imp fun a l1 M1 H1 st1 rl1 g1 v rv => ?_
  dsimp only at g1
  cases e1 : res l1 a with
  | none => rw [e1] at g1; exact g1.elim
  | some d =>
    rw [e1] at g1
    dsimp only at g1
    cases e2 : truth d with
    | none => rw [e2] at g1; exact g1.elim
    | some b =>
      rw [e2] at g1
      exact ⟨b, tru_of (RepA.pk (C := ⟨X.K, Xs, W, xi, σ⟩) rl1 rv e1) e2, g1 M1 H1 Step.refl rl1⟩
end
end DL

set_option Elab.async false
set_option linter.all false
set_option maxRecDepth 100000
set_option maxHeartbeats 2000000
namespace DL
open PySem PySem.Spec PyProof.Rows L2

/-! ## calls -/
def gather {α : Type} (pm : List Nat) (xs : List α) : List α := pm.filterMap (xs[·]?)
structure Shape where
  n : Nat
  ks : List Str
  pm : List Nat
def ShapeOk (K : PySem.W.Frag) (fd : FuncData) (ps : List Str) (sh : Shape) : Prop :=
  ∀ (s : Shared) (us ws : List Value), K.In s.heap → us.length = sh.n → ws.length = sh.ks.length → BindsTo s fd ⟨us, sh.ks.zip ws⟩ (ps.zip (gather sh.pm (us ++ ws)))
theorem vals_gather {vs : List V} {us : List Value} (r : Vals vs us) : ∀ pm : List Nat, Vals (gather pm vs) (gather pm us)
  | [] => .nil
  | k :: pm => by
    unfold gather
    rw [List.filterMap_cons, List.filterMap_cons]
    cases e : vs[k]? with
    | none =>
      rw [Vals.none_of r e]
      exact vals_gather r pm
    | some v =>
      obtain ⟨u, hu, rv⟩ := Vals.get r e
      rw [hu]
      exact .cons rv (vals_gather r pm)
/-- what a def of the small language promises -/
def spOf (K : PySem.W.Frag) (xi : XI) (np : Nat) (rf : Option Nat) (F : List Sl → R (Sl × List Sl)) : Sp := fun vs H Q E =>
  ∃ (X M : Ad) (ss : List Sl), vs.length = np ∧ RepLoc xi.tb K X M (vs.map some) H ss ∧ (∀ a, M a → Owd ss (vs.map some) H a) ∧ (∀ (i : Nat) (s : Sl), ss[i]? = some s → s.lin = true → rf = some i) ∧
    (match F ss with
    | .ok r => ∀ v M' H', Step M H M' H' → RepLoc xi.tb K X M' (vs.map some) H' r.2 → RepR K X M' (vs.map some) r.2 H' v r.1 → Q v H'
    | .exc x _ => ∀ cls d M' H', Step M H M' H' → xi x cls d H' → E cls d H'
    | .bad => False)

section
variable {l : Loc} {rf : Option Nat} {as : List A}
theorem argsOf_len : ∀ {pm : List Nat} {j : Nat} {ss : List Sl}, argsOf l rf as j pm = some ss → ss.length = pm.length
  | [], j, ss, h => by unfold argsOf at h; cases h; rfl
  | k :: ks, j, ss, h => by
    unfold argsOf at h
    cases e1 : as[k]? with
    | none => rw [e1] at h; cases h
    | some a =>
      cases e2 : argsOf l rf as (j + 1) ks with
      | none => rw [e1, e2] at h; cases h
      | some r =>
        rw [e1, e2] at h
        dsimp only at h
        rw [Option.map_eq_some_iff] at h
        obtain ⟨s, _, rfl⟩ := h
        rw [List.length_cons, List.length_cons, argsOf_len e2]
theorem argsOf_get : ∀ {pm : List Nat} {j : Nat} {ss : List Sl}, argsOf l rf as j pm = some ss → ∀ (m : Nat) (s : Sl), ss[m]? = some s → ∃ (k : Nat) (a : A), pm[m]? = some k ∧ as[k]? = some a ∧ argOf l (rf == some (j + m)) a = some s
  | [], j, ss, h, m, s, q => by unfold argsOf at h; cases h; simp at q
  | k :: ks, j, ss, h, m, s, q => by
    unfold argsOf at h
    cases e1 : as[k]? with
    | none => rw [e1] at h; cases h
    | some a =>
      cases e2 : argsOf l rf as (j + 1) ks with
      | none => rw [e1, e2] at h; cases h
      | some r =>
        rw [e1, e2] at h
        dsimp only at h
        rw [Option.map_eq_some_iff] at h
        obtain ⟨s0, h0, rfl⟩ := h
        cases m with
        | zero =>
          simp at q; subst q
          exact ⟨k, a, rfl, e1, h0⟩
        | succ m =>
          obtain ⟨k', a', g1, g2, g3⟩ := argsOf_get e2 m s (by simpa using q)
          exact ⟨k', a', by simpa using g1, g2, by rw [show j + (m + 1) = j + 1 + m by omega]; exact g3⟩
theorem argsOf_as : ∀ {pm : List Nat} {j : Nat} {ss : List Sl}, argsOf l rf as j pm = some ss → ∀ k ∈ pm, ∃ a, as[k]? = some a
  | [], j, ss, h, k, q => by cases q
  | k :: ks, j, ss, h, k', q => by
    unfold argsOf at h
    cases e1 : as[k]? with
    | none => rw [e1] at h; cases h
    | some a =>
      cases e2 : argsOf l rf as (j + 1) ks with
      | none => rw [e1, e2] at h; cases h
      | some r =>
        rcases List.mem_cons.mp q with rfl | q
        · exact ⟨a, e1⟩
        · exact argsOf_as e2 k' q
theorem peeks_in : ∀ {pm : List Nat} {j m k i : Nat} {ds : List D}, pm[m]? = some k → as[k]? = some (.pos i) → l[i]? = some (.own ds) → (rf == some (j + m)) = false → i ∈ peeks l rf as j pm
  | [], j, m, k, i, ds, h, _, _, _ => by simp at h
  | p :: pm, j, 0, k, i, ds, h, h1, h2, h3 => by
    simp at h; subst h
    unfold peeks
    refine List.mem_append_left _ ?_
    rw [h1]
    dsimp only
    rw [show (rf == some j) = false from h3, if_neg Bool.false_ne_true, h2]
    exact List.mem_singleton.mpr rfl
  | p :: pm, j, m + 1, k, i, ds, h, h1, h2, h3 => by
    unfold peeks
    exact List.mem_append_right _ (peeks_in (j := j + 1) (m := m) (by simpa using h) h1 h2 (by rw [show j + 1 + m = j + (m + 1) by omega]; exact h3))
theorem peeks_own : ∀ {pm : List Nat} {j i : Nat}, i ∈ peeks l rf as j pm → ∃ ds, l[i]? = some (.own ds)
  | [], j, i, h => by unfold peeks at h; cases h
  | p :: pm, j, i, h => by
    unfold peeks at h
    rcases List.mem_append.mp h with h | h
    · split at h
      · split at h
        · cases h
        · split at h
          · rename_i ds e
            rw [List.mem_singleton.mp h]; exact ⟨ds, e⟩
          · cases h
      · cases h
    · exact peeks_own h
theorem demotes_get : ∀ (ps : List Nat) (l : Loc) (k : Nat), (demotes l ps)[k]? = match l[k]? with
    | some (.own ds) => if k ∈ ps then some (.val (.lst ds)) else some (.own ds)
    | o => o
  | [], l, k => by
    unfold demotes
    cases e : l[k]? with
    | none => rfl
    | some s => cases s <;> simp
  | i :: ps, l, k => by
    unfold demotes
    rw [demotes_get ps]
    unfold demote
    cases e : l[i]? with
    | none => 
      dsimp only
      cases e2 : l[k]? with
      | none => rfl
      | some s =>
        cases s with
        | own ds =>
          have : k ≠ i := fun z => by subst z; rw [e] at e2; cases e2
          simp [this]
        | _ => rfl
    | some s =>
      have hi : i < l.length := (List.getElem?_eq_some_iff.mp e).1
      cases s with
      | own ds =>
        dsimp only
        by_cases hk : k = i
        · subst hk
          rw [List.getElem?_set_self hi, e]
          simp
        · rw [List.getElem?_set_ne (Ne.symm hk)]
          cases e2 : l[k]? with
          | none => rfl
          | some s => cases s <;> simp [hk]
      | _ =>
        dsimp only
        cases e2 : l[k]? with
        | none => rfl
        | some s =>
          cases s with
          | own ds =>
            have : k ≠ i := fun z => by subst z; rw [e] at e2; cases e2
            simp [this]
          | _ => rfl
theorem demotes_len : ∀ (ps : List Nat) (l : Loc), (demotes l ps).length = l.length
  | [], l => rfl
  | i :: ps, l => by
    unfold demotes
    rw [demotes_len ps]
    unfold demote
    split
    · rw [List.length_set]
    · rfl
end
mutual
theorem Rep.any {K : PySem.W.Frag} {F F' : Ad} {H : Hp} (t : ∀ a, F' a → ∃ vs, H a = some (.lst vs)) : ∀ (d : D) (v : V), nolst d = true → Rep K F H v d → Rep K F' H v d
  | .non, v, _, h => by rw [Rep] at h ⊢; exact h
  | .bl _, v, _, h => by rw [Rep] at h ⊢; exact h
  | .int _, v, _, h => by rw [Rep] at h ⊢; exact h
  | .str _, v, _, h => by rw [Rep] at h ⊢; exact h
  | .tup ds, v, n, h => by
    rw [Rep] at h ⊢
    rw [nolst] at n
    obtain ⟨a, vs, h1, h2, h3⟩ := h
    refine ⟨a, vs, h1, ?_, RepL.any t ds vs n h3⟩
    rcases h2 with ⟨h2 | ⟨o, h2⟩, _⟩ | h2
    · exact .inl ⟨.inl h2, fun z => by obtain ⟨ws, q⟩ := t a z; rw [h2] at q; cases q⟩
    · exact .inl ⟨.inr ⟨o, h2⟩, fun z => by obtain ⟨ws, q⟩ := t a z; rw [h2] at q; cases q⟩
    · exact .inr h2
  | .lst ds, v, n, h => by rw [nolst] at n; cases n
theorem RepL.any {K : PySem.W.Frag} {F F' : Ad} {H : Hp} (t : ∀ a, F' a → ∃ vs, H a = some (.lst vs)) : ∀ (ds : List D) (vs : List V), nolstL ds = true → RepL K F H vs ds → RepL K F' H vs ds
  | [], vs, _, h => by rw [RepL] at h ⊢; exact h
  | d :: ds, vs, n, h => by
    rw [RepL] at h ⊢
    rw [nolstL, Bool.and_eq_true] at n
    obtain ⟨v, r, h1, h2, h3⟩ := h
    exact ⟨v, r, h1, Rep.any t d v n.1 h2, RepL.any t ds r n.2 h3⟩
end

theorem gather_get {α : Type} {xs : List α} : ∀ {pm : List Nat}, (∀ k ∈ pm, ∃ a, xs[k]? = some a) → (gather pm xs).length = pm.length ∧ ∀ (m k : Nat), pm[m]? = some k → (gather pm xs)[m]? = xs[k]?
  | [], _ => ⟨rfl, fun m k h => by simp at h⟩
  | p :: pm, h => by
    obtain ⟨a, ha⟩ := h p List.mem_cons_self
    obtain ⟨h1, h2⟩ := gather_get (fun k hk => h k (List.mem_cons_of_mem _ hk))
    have e : gather (p :: pm) xs = a :: gather pm xs := by
      unfold gather
      rw [List.filterMap_cons, ha]
    rw [e]
    refine ⟨by rw [List.length_cons, List.length_cons, h1], fun m k hm => ?_⟩
    cases m with
    | zero => simp at hm; subst hm; rw [ha]; rfl
    | succ m => exact h2 m k (by simpa using hm)
theorem RepAs.get {C : Cf} {M : Ad} {H : Hp} : ∀ {as : List A} {vs : List V} {k : Nat} {a : A}, RepAs C M H vs as → as[k]? = some a → ∃ v, vs[k]? = some v ∧ RepA C M H v a
  | [], [], k, a, _, e => by simp at e
  | b :: as, v :: vs, 0, a, h, e => by simp at e; subst e; exact ⟨v, rfl, h.1⟩
  | b :: as, v :: vs, k + 1, a, h, e => by
    obtain ⟨w, h1, h2⟩ := RepAs.get h.2 (show as[k]? = some a by simpa using e)
    exact ⟨w, by simpa using h1, h2⟩
  | [], _ :: _, _, _, h, _ => h.elim
  | _ :: _, [], _, _, h, _ => h.elim
end DL

set_option Elab.async false
set_option linter.all false
set_option maxRecDepth 100000
set_option maxHeartbeats 2000000
namespace DL
open PySem PySem.Spec PyProof.Rows L2

/-! ## a call's syntax -/
def notStar : Expr → Bool
  | .Starred _ _ => false
  | _ => true
theorem starEach_cons {e : Expr} {es : List Expr} {env : Env} (h : notStar e = true) : starEach (e :: es) env = (false, eval e env) :: starEach es env := by
  cases e <;> first | rfl | cases h
theorem starEach_any {env : Env} {pos : Pos} : ∀ {es : List Expr}, es.all notStar = true → (backTo pos (starEach es env)).any (·.1) = false
  | [], _ => by simp [starEach, backTo]
  | e :: es, h => by
    rw [List.all_cons, Bool.and_eq_true] at h
    rw [starEach_cons h.1]
    show (false || (backTo pos (starEach es env)).any (·.1)) = false
    rw [starEach_any h.2]; rfl
theorem kw_all {env : Env} {pos : Pos} : ∀ {ks : List Keyword}, ks.all (fun k => k.arg.isSome) = true → (backToKw pos (keywordEach ks env)).all (·.1.isSome) = true ∧ (backToKw pos (keywordEach ks env)).any (·.1.isNone) = false
  | [], _ => by simp [keywordEach, backToKw]
  | ⟨n, e, p⟩ :: ks, h => by
    rw [List.all_cons, Bool.and_eq_true] at h
    obtain ⟨h1, h2⟩ := kw_all (env := env) (pos := pos) h.2
    constructor
    · show (n.isSome && (backToKw pos (keywordEach ks env)).all (·.1.isSome)) = true
      rw [h1, Bool.and_true]; exact h.1
    · show (n.isNone || (backToKw pos (keywordEach ks env)).any (·.1.isNone)) = false
      rw [h2, Bool.or_false]
      have : n.isSome = true := h.1
      cases n <;> first | rfl | cases this
theorem kw_names {env : Env} {pos : Pos} : ∀ {ks : List Keyword}, (backToKw pos (keywordEach ks env)).filterMap (·.1) = ks.filterMap (·.arg)
  | [] => by simp [keywordEach, backToKw]
  | ⟨n, e, p⟩ :: ks => by
    show List.filterMap (·.1) ((n, _) :: backToKw pos (keywordEach ks env)) = _
    rw [List.filterMap_cons, List.filterMap_cons, kw_names]

section
variable {X : Cx} {W : WX} {k : Nat} {f : Addr} {fd : FuncData} {ps : List Str} {sp : Sp} {x : Str} {p pos : Pos} {es : List Expr} {kws : List Keyword} {t tk : TA} {sh : Shape}
theorem run_A {pins : List (Addr × Obj)} {σ : L2.St} {H : Hp} {s : Shared} {Q : VK} {us ws : List Value} {vs zs : List V} (F : FnOk X.prog X.w X.K X.mg X.base (L2.CX X.prog X.w) k f fd ps sp) (hr : Room k X.A) (hb : ShapeOk X.K fd ps sh) (tk : Takes X W)
    (I : Inv X pins σ H s) (r : Vals vs us) (rz : Vals zs ws) (h1 : vs.length = sh.n) (h2 : zs.length = sh.ks.length) (h : sp (gather sh.pm (vs ++ zs)) H Q (fun cls d H' => W cls d σ H')) :
    wpAny (model X.prog X.w) X.A (call (.ref f) us (sh.ks.zip ws)) (EP X pins σ Q) X.xe s := by
  have b := hb s us ws I.kIn (by rw [← r.length]; exact h1) (by rw [← rz.length]; exact h2)
  refine wpAny_call (codeAny_mono (F.run X.A X.stack s H ⟨us, sh.ks.zip ws⟩ (gather sh.pm (us ++ ws)) (gather sh.pm (vs ++ zs)) Q _ hr I.env0 b (vals_gather (r.append rz) sh.pm) h) fun r s' hq => ?_)
  cases r with
  | error e => exact passAt tk σ pins H s e s' I hq
  | ok fl =>
    cases fl with
    | ret u => exact I.after hq
    | next => exact False.elim hq
    | brk => exact False.elim hq
    | cont => exact False.elim hq
/-- the callee's promise at the values of a call -/
abbrev SpA (sp : Sp) (sh : Shape) (W : WX) (σ : L2.St) (vs : List V) (H : Hp) (Q : VK) : Prop := vs.length = sh.n + sh.ks.length ∧ sp (gather sh.pm vs) H Q (fun cls d H' => W cls d σ H')
theorem pe_callP {e : Expr} (F : FnOk X.prog X.w X.K X.mg X.base (L2.CX X.prog X.w) k f fd ps sp) (hr : Room k X.A) (hg : Gl X x) (hm : X.mg x = some (.ref f)) (hk : PySem.W.keepIn X.K (.ref f) = true) (hb : ShapeOk X.K fd ps sh) (tk' : Takes X W)
    (ha : PA X (e :: es) t) (hst : (e :: es).all notStar = true) (hks : sh.ks = []) (hdb : (x == ("__debug__" : Str)) = false) :
    PE X (.Call (.Name x p) (e :: es) [] pos) (fun σ H Q => t σ H fun vs H1 => SpA sp sh W σ vs H1 Q) := by
  refine ⟨fun pins s σ H Q I h => ?_⟩
  refine wpAny_Call_Name_kw (ld_glob I hg hm ?_ hdb)
  rw [List.all_cons, Bool.and_eq_true] at hst
  refine PySem.W.callWith_K (h₀ := X.base) I.ok.mod.kin hk (thn (ha.run pos pins s σ H _ I h) fun us s1 ⟨vs, H1, I1, r, q⟩ => ⟨I1.kIn, ?_⟩) (starEach_cons hst.1) (starEach_any hst.2)
  have e0 : us = us ++ [] := (List.append_nil _).symm
  have q1 := q.1
  rw [hks] at q1
  have := run_A (sh := sh) (us := us) (ws := []) (vs := vs) (zs := []) F hr hb tk' I1 r .nil (by simpa using q1) (by rw [hks]; rfl) (by rw [List.append_nil]; exact q.2)
  rw [hks] at this
  exact this
theorem pe_callPK {e : Expr} (F : FnOk X.prog X.w X.K X.mg X.base (L2.CX X.prog X.w) k f fd ps sp) (hr : Room k X.A) (hg : Gl X x) (hm : X.mg x = some (.ref f)) (hk : PySem.W.keepIn X.K (.ref f) = true) (hb : ShapeOk X.K fd ps sh) (tk' : Takes X W)
    (ha : PA X (e :: es) t) (hkw : PK X kws tk) (hst : (e :: es).all notStar = true) (hnm : kws.all (fun k => k.arg.isSome) = true) (hks : kws.filterMap (·.arg) = sh.ks) (hdb : (x == ("__debug__" : Str)) = false) :
    PE X (.Call (.Name x p) (e :: es) kws pos) (fun σ H Q => t σ H fun vs H1 => tk σ H1 fun zs H2 => vs.length = sh.n ∧ SpA sp sh W σ (vs ++ zs) H2 Q) := by
  refine ⟨fun pins s σ H Q I h => ?_⟩
  refine wpAny_Call_Name_kw (ld_glob I hg hm ?_ hdb)
  obtain ⟨k1, k2⟩ := kw_all (env := X.env) (pos := pos) hnm
  have k3 : (backToKw pos (keywordEach kws X.env)).filterMap (·.1) = sh.ks := kw_names.trans hks
  have k4 : (backTo pos (starEach (e :: es) X.env)).any (·.1) = false := starEach_any hst
  rw [List.all_cons, Bool.and_eq_true] at hst
  refine PySem.W.callWith_KW (h₀ := X.base) I.ok.mod.kin hk k1 (thn (ha.run pos pins s σ H _ I h) fun us s1 ⟨vs, H1, I1, r, q⟩ => ?_) (by rw [k2, k4]; rfl) (starEach_cons hst.1)
  refine thn (hkw.run pos pins s1 σ H1 _ I1 q) fun ws s2 ⟨zs, H2, I2, rz, q1, q2, q3⟩ => ⟨I2.kIn, ?_⟩
  rw [k3]
  exact run_A F hr hb tk' I2 r rz q1 (by rw [List.length_append] at q2; omega) q3
theorem pe_callK0 (F : FnOk X.prog X.w X.K X.mg X.base (L2.CX X.prog X.w) k f fd ps sp) (hr : Room k X.A) (hg : Gl X x) (hm : X.mg x = some (.ref f)) (hk : PySem.W.keepIn X.K (.ref f) = true) (hb : ShapeOk X.K fd ps sh) (tk' : Takes X W)
    (hkw : PK X kws tk) (hn : sh.n = 0) (hnm : kws.all (fun k => k.arg.isSome) = true) (hks : kws.filterMap (·.arg) = sh.ks) (hdb : (x == ("__debug__" : Str)) = false) :
    PE X (.Call (.Name x p) [] kws pos) (fun σ H Q => tk σ H fun zs H2 => SpA sp sh W σ zs H2 Q) := by
  refine ⟨fun pins s σ H Q I h => ?_⟩
  refine wpAny_Call_Name_kw (ld_glob I hg hm ?_ hdb)
  obtain ⟨k1, k2⟩ := kw_all (env := X.env) (pos := pos) hnm
  have k3 : (backToKw pos (keywordEach kws X.env)).filterMap (·.1) = sh.ks := kw_names.trans hks
  refine PySem.W.callWith_KW0 (h₀ := X.base) I.ok.mod.kin hk k1 ?_ (by show (false || _) = false; rw [k2]; rfl)
  refine thn (hkw.run pos pins s σ H _ I h) fun ws s2 ⟨zs, H2, I2, rz, q2, q3⟩ => ⟨I2.kIn, ?_⟩
  rw [k3]
  exact run_A (us := []) (vs := []) F hr hb tk' I2 .nil rz (by rw [hn]; rfl) (by omega) q3
theorem pe_call00 (F : FnOk X.prog X.w X.K X.mg X.base (L2.CX X.prog X.w) k f fd ps sp) (hr : Room k X.A) (hg : Gl X x) (hm : X.mg x = some (.ref f)) (hk : PySem.W.keepIn X.K (.ref f) = true) (hb : ShapeOk X.K fd ps sh) (tk' : Takes X W)
    (hn : sh.n = 0) (hks : sh.ks = []) (hdb : (x == ("__debug__" : Str)) = false) :
    PE X (.Call (.Name x p) [] [] pos) (fun σ H Q => SpA sp sh W σ [] H Q) := by
  refine ⟨fun pins s σ H Q I h => ?_⟩
  refine wpAny_Call_Name_kw (ld_glob I hg hm ?_ hdb)
  refine PySem.W.callWith_K0 I.kIn hk ?_
  have := run_A (sh := sh) (us := []) (ws := []) (vs := []) (zs := []) F hr hb tk' I .nil .nil (by rw [hn]; rfl) (by rw [hks]; rfl) h.2
  rw [hks] at this
  exact this
end
end DL

set_option Elab.async false
set_option linter.all false
set_option maxRecDepth 100000
set_option maxHeartbeats 2000000
namespace DL
open PySem PySem.Spec PyProof.Rows L2

section
variable {C : Cf} {M : Ad} {H : Hp} {l : Loc} {rf : Option Nat} {as : List A} {pm : List Nat} {vs : List V} {args : List Sl}
/-- the own list that is handed on, all that stands within -/
def McOf (C : Cf) (H : Hp) (l : Loc) (rf : Option Nat) (as : List A) (pm : List Nat) : Ad := fun a => ∃ (i : Nat) (s : Sl) (v : V), refAt rf as pm = some i ∧ l[i]? = some s ∧ C.σ[i]? = some (some v) ∧ Ows H v s a
def PkOf (C : Cf) (l : Loc) (rf : Option Nat) (as : List A) (pm : List Nat) : Ad := fun a => ∃ i ∈ peeks l rf as 0 pm, C.σ[i]? = some (some (.ref a))
def XcOf (C : Cf) (M : Ad) (H : Hp) (l : Loc) (rf : Option Nat) (as : List A) (pm : List Nat) : Ad := fun a => (C.Xs a ∨ M a) ∧ ¬ McOf C H l rf as pm a ∧ ¬ PkOf C l rf as pm a
theorem own_at (r : RepLoc C.xi.tb C.K C.Xs M C.σ H l) {i : Nat} {ds : List D} {a : Addr} (e : l[i]? = some (.own ds)) (s : C.σ[i]? = some (some (.ref a))) : M a ∧ ∃ ws, H a = some (.lst ws) ∧ RepL C.K (Fb C.Xs M) H ws ds := by
  obtain ⟨b, ws, h1, h2, h3, h4⟩ := r.own i ds e
  rw [s] at h1
  have : a = b := by simpa using h1
  subst this
  exact ⟨h2, ws, h3, h4⟩
theorem McOf.owd {a : Addr} (h : McOf C H l rf as pm a) : Owd l C.σ H a := by
  obtain ⟨i, s, v, _, h2, h3, h4⟩ := h
  exact ⟨i, s, v, h2, h3, h4⟩
theorem McOf.own (r : RepLoc C.xi.tb C.K C.Xs M C.σ H l) {a : Addr} (h : McOf C H l rf as pm a) : M a := (r.owd_M h.owd).1
theorem PkOf.own (r : RepLoc C.xi.tb C.K C.Xs M C.σ H l) {a : Addr} (h : PkOf C l rf as pm a) : M a ∧ ∃ ws, H a = some (.lst ws) := by
  obtain ⟨i, h1, h2⟩ := h
  obtain ⟨ds, h3⟩ := peeks_own h1
  obtain ⟨q, ws, q2, _⟩ := own_at r h3 h2
  exact ⟨q, ws, q2⟩
/-- what is handed on by value is not what is handed on to be changed -/
theorem PkOf.not (r : RepLoc C.xi.tb C.K C.Xs M C.σ H l) (np : ∀ i, refAt rf as pm = some i → i ∉ peeks l rf as 0 pm) {a : Addr} (h : PkOf C l rf as pm a) : ¬ McOf C H l rf as pm a := fun z => by
  obtain ⟨i, h1, h2⟩ := h
  obtain ⟨ds, h3⟩ := peeks_own h1
  obtain ⟨j, s, v, g1, g2, g3, g4⟩ := z
  have : i = j := r.dj i j a _ _ _ _ h3 g2 h2 g3 rfl g4
  subst this
  exact np i g1 h1
theorem argOf_lin {own : Bool} {a : A} {s : Sl} (h : argOf l own a = some s) (hs : s.lin = true) : own = true ∧ ∃ i, a = .pos i ∧ l[i]? = some s := by
  cases a with
  | dat d =>
    unfold argOf at h
    dsimp only at h
    split at h <;> cases h
    cases hs
  | pos i =>
    unfold argOf at h
    dsimp only at h
    split at h <;> cases h
    · cases hs
    · cases hs
    · exact ⟨rfl, i, rfl, by assumption⟩
    · exact ⟨rfl, i, rfl, by assumption⟩
theorem Ows.lin {H : Hp} {v : V} {s : Sl} {a : Addr} (h : Ows H v s a) : s.lin = true := by
  cases s with
  | un => exact h.elim
  | val d => exact h.elim
  | own ds => rfl
  | nst cs => rfl
/-- the callee's slots -/
theorem args_rep (r : RepLoc C.xi.tb C.K C.Xs M C.σ H l) (ra : RepAs C M H vs as) (ea : argsOf l rf as 0 pm = some args) (np : ∀ i, refAt rf as pm = some i → i ∉ peeks l rf as 0 pm) :
    RepLoc C.xi.tb C.K (XcOf C M H l rf as pm) (McOf C H l rf as pm) ((gather pm vs).map some) H args ∧ (∀ a, McOf C H l rf as pm a → Owd args ((gather pm vs).map some) H a) ∧
      (∀ (i : Nat) (s : Sl), args[i]? = some s → s.lin = true → rf = some i) ∧ (gather pm vs).length = pm.length ∧
      (∀ i, refAt rf as pm = some i → ∃ j s v, rf = some j ∧ l[i]? = some s ∧ C.σ[i]? = some (some v) ∧ args[j]? = some s ∧ (gather pm vs)[j]? = some v ∧ s.lin = true) := by
  have hmem : ∀ k ∈ pm, ∃ v, vs[k]? = some v := fun k hk => by
    obtain ⟨a, ha⟩ := argsOf_as ea k hk
    obtain ⟨v, hv, _⟩ := ra.get ha
    exact ⟨v, hv⟩
  obtain ⟨gl, gg⟩ := gather_get hmem
  have al := argsOf_len ea
  -- an argument: its written place, its value
  have get : ∀ (m : Nat) (s : Sl), args[m]? = some s → ∃ (k : Nat) (a : A) (v : V), pm[m]? = some k ∧ as[k]? = some a ∧ argOf l (rf == some m) a = some s ∧ (gather pm vs)[m]? = some v ∧ RepA C M H v a := fun m s e => by
    obtain ⟨k, a, h1, h2, h3⟩ := argsOf_get ea m s e
    obtain ⟨v, hv, rv⟩ := ra.get h2
    refine ⟨k, a, v, h1, h2, by simpa using h3, ?_, rv⟩
    rw [gg m k h1, hv]
  have sub : ∀ a, Fb (XcOf C M H l rf as pm) (McOf C H l rf as pm) a → Fb C.Xs M a := fun a z => z.elim (fun x => x.1) (fun m => .inr (m.own r))
  have linA : ∀ (m : Nat) (s : Sl), args[m]? = some s → s.lin = true → rf = some m ∧ ∃ (k i : Nat), pm[m]? = some k ∧ as[k]? = some (.pos i) ∧ l[i]? = some s ∧ refAt rf as pm = some i ∧ ∃ v, (gather pm vs)[m]? = some v ∧ C.σ[i]? = some (some v) := fun m s e hs => by
    obtain ⟨k, a, v, h1, h2, h3, h4, h5⟩ := get m _ e
    obtain ⟨e2, i, rfl, e1⟩ := argOf_lin h3 hs
    have er : rf = some m := by simpa using e2
    refine ⟨er, k, i, h1, h2, e1, ?_, v, h4, h5⟩
    unfold refAt
    rw [er]
    dsimp only
    rw [h1]
    dsimp only
    rw [h2]
  have refA : ∀ i, refAt rf as pm = some i → ∃ j s v, rf = some j ∧ l[i]? = some s ∧ C.σ[i]? = some (some v) ∧ args[j]? = some s ∧ (gather pm vs)[j]? = some v ∧ s.lin = true := fun i g1 => by
    unfold refAt at g1
    cases rf with
    | none => cases g1
    | some j =>
      dsimp only at g1
      cases ej : pm[j]? with
      | none => rw [ej] at g1; cases g1
      | some k =>
        rw [ej] at g1
        dsimp only at g1
        cases ek : as[k]? with
        | none => rw [ek] at g1; cases g1
        | some b =>
          rw [ek] at g1
          cases b with
          | dat d => cases g1
          | pos i' =>
            cases g1
            have hj : j < args.length := by rw [al]; exact (List.getElem?_eq_some_iff.mp ej).1
            obtain ⟨s, hs⟩ : ∃ s, args[j]? = some s := ⟨_, List.getElem?_eq_getElem hj⟩
            obtain ⟨k', a', v, h1, h2, h3, h4, h5⟩ := get j _ hs
            rw [ej] at h1; cases h1
            rw [ek] at h2; cases h2
            unfold argOf at h3
            dsimp only at h3
            have h5' : C.σ[i]? = some (some v) := h5
            cases e : l[i]? with
            | none => rw [e] at h3; simp at h3
            | some t =>
              rw [e] at h3
              simp only [beq_self_eq_true] at h3
              cases t <;> cases h3
              · exact ⟨j, _, v, rfl, rfl, h5', hs, h4, rfl⟩
              · exact ⟨j, _, v, rfl, rfl, h5', hs, h4, rfl⟩
  refine ⟨⟨by rw [List.length_map, gl, al], fun m s e hs => ?_, fun m n a s t v w e1 e2 e3 e4 o1 o2 => ?_, fun a z => ?_, fun a z => z.2.1, r.tab⟩, fun a z => ?_, fun m s e hs => (linA m s e hs).1, gl, refA⟩
  · cases hlin : s.lin with
    | true =>
      obtain ⟨er, k, i, h1, h2, h3, h4, v, h5, h6⟩ := linA m s e hlin
      obtain ⟨v', q1, q2⟩ := r.slot i s h3 hs
      rw [h6] at q1
      cases q1
      exact ⟨v, by rw [List.getElem?_map, h5]; rfl, q2.move (fun _ _ _ q _ => q) (fun b z => .inl (sub b z)) fun a o => ⟨⟨i, s, v, h4, h3, h6, o⟩, fun _ q => q⟩⟩
    | false =>
      obtain ⟨k, a, v, h1, h2, h3, h4, h5⟩ := get m _ e
      refine ⟨v, by rw [List.getElem?_map, h4]; rfl, ?_⟩
      cases a with
      | dat d' =>
        unfold argOf at h3
        dsimp only at h3
        split at h3 <;> cases h3
        exact Rep.mono h5 sub
      | pos i =>
        unfold argOf at h3
        dsimp only at h3
        split at h3
        · rename_i e1 e2
          cases h3
          obtain ⟨w, q1, q2⟩ := r.val i _ e1
          have h5' : C.σ[i]? = some (some v) := h5
          rw [q1] at h5'
          have : w = v := by simpa using h5'
          subst this
          exact q2.mono sub
        · rename_i ds e1 e2
          cases h3
          obtain ⟨b, ws, q1, q2, q3, q4⟩ := r.own i _ e1
          have h5' : C.σ[i]? = some (some v) := h5
          rw [q1] at h5'
          have : v = .ref b := by simpa using h5'.symm
          subst this
          have hp : PkOf C l rf as pm b := ⟨i, peeks_in h1 h2 e1 (by simpa using e2), q1⟩
          show Rep C.K _ H (.ref b) (.lst ds)
          rw [Rep]
          exact ⟨b, ws, rfl, .inl ⟨.inl q3, fun z => z.elim (fun x => x.2.2 hp) (hp.not r np)⟩, q4.mono sub⟩
        · cases h3; cases hlin
        · cases h3; cases hlin
        · cases h3
  · have a1 := (linA m s e1 o1.lin).1
    have a2 := (linA n t e2 o2.lin).1
    rw [a1] at a2
    simpa using a2
  · exact r.trk a (sub a z)
  · obtain ⟨i, s, v, g1, g2, g3, g4⟩ := z
    obtain ⟨j, s', v', q1, q2, q3, q4, q5, _⟩ := refA i g1
    rw [g2] at q2; cases q2
    rw [g3] at q3; cases q3
    exact ⟨j, s, v, q4, by rw [List.getElem?_map, q5]; rfl, g4⟩
end
end DL

set_option Elab.async false
set_option linter.all false
set_option maxRecDepth 100000
set_option maxHeartbeats 4000000
namespace DL
open PySem PySem.Spec PyProof.Rows L2

section
variable {C : Cf} {M M' : Ad} {H H' : Hp} {l l0 l1 : Loc} {rf : Option Nat} {as : List A} {pm : List Nat} {vs : List V} {args outs : List Sl} {s : Sl} {v : V}
theorem RepCs.conv {K : PySem.W.Frag} {X X' M M' : Ad} {H : Hp} (hm : ∀ a, M a → M' a) (h1 : ∀ v d, (nolst d = true ∨ P) → Rep K (Fb X M) H v d → Rep K (Fb X' M') H v d) (h2 : ∀ ds vs, (nolstL ds = true ∨ P) → RepL K (Fb X M) H vs ds → RepL K (Fb X' M') H vs ds) :
    ∀ {vs : List V} {cs : List Cl}, (cs.all Cl.nol = true ∨ P) → RepCs K X M H vs cs → RepCs K X' M' H vs cs
  | [], [], _, _ => trivial
  | v :: vs, c :: cs, n, r => by
    have n1 : c.nol = true ∨ P := n.imp (fun z => by rw [List.all_cons, Bool.and_eq_true] at z; exact z.1) id
    refine ⟨?_, RepCs.conv hm h1 h2 (n.imp (fun z => by rw [List.all_cons, Bool.and_eq_true] at z; exact z.2) id) r.2⟩
    have r1 := r.1
    cases c with
    | v d => exact h1 v d n1 r1
    | o ds =>
      obtain ⟨b, ws, rfl, q1, q2, q3⟩ := r1
      exact ⟨b, ws, rfl, hm b q1, q2, h2 ds ws n1 q3⟩
  | [], _ :: _, _, r => r.elim
  | _ :: _, [], _, r => r.elim
/-- the slots behind the call, ahead of a demotion -/
theorem after_core (dem : Bool) (r : RepLoc C.xi.tb C.K C.Xs M C.σ H l) (st : Step (McOf C H l rf as pm) H M' H')
    (tr : ∀ a, XcOf C M H l rf as pm a ∨ M' a → ∃ vs, H' a = some (.lst vs)) (dis : ∀ a, XcOf C M H l rf as pm a → ¬ M' a) (np : ∀ i, refAt rf as pm = some i → i ∉ peeks l rf as 0 pm)
    (hl : l0.length = l.length)
    (h0 : ∀ k, (refAt rf as pm = some k ∧ ∃ s v, l0[k]? = some s ∧ s.lin = true ∧ C.σ[k]? = some (some v) ∧ RepS C.K (XcOf C M H l rf as pm) M' H' v s ∧ ((s.nol = true ∨ dem = true ∨ peeks l rf as 0 pm = []))) ∨
      (refAt rf as pm ≠ some k ∧ l0[k]? = l[k]?)) :
    ∃ Mn, Step M H Mn H' ∧ RepLoc C.xi.tb C.K C.Xs Mn C.σ H' (if dem then demotes l0 (peeks l rf as 0 pm) else l0) ∧
      (∀ v s, (s.nol = true ∨ dem = true ∨ peeks l rf as 0 pm = []) → RepS C.K (XcOf C M H l rf as pm) M' H' v s → RepS C.K C.Xs Mn H' v s) ∧
      (∀ a, Owd (if dem then demotes l0 (peeks l rf as 0 pm) else l0) C.σ H' a → (∃ k s v, refAt rf as pm = some k ∧ l0[k]? = some s ∧ C.σ[k]? = some (some v) ∧ Ows H' v s a) ∨ (Owd l C.σ H a ∧ ¬ McOf C H l rf as pm a)) := by
  have mcM : ∀ a, McOf C H l rf as pm a → M a := fun a m => m.own r
  have pkM' : ∀ a, PkOf C l rf as pm a → ¬ M' a := fun a p m => by
    obtain ⟨hm, ws, hw⟩ := p.own r
    rcases st.grow a m with q | q
    · exact p.not r np q
    · rw [hw] at q; cases q
  refine ⟨fun a => ((M a ∧ ¬ McOf C H l rf as pm a) ∨ M' a) ∧ ¬ (dem = true ∧ PkOf C l rf as pm a), ?_⟩
  have stp : Step M H (fun a => ((M a ∧ ¬ McOf C H l rf as pm a) ∨ M' a) ∧ ¬ (dem = true ∧ PkOf C l rf as pm a)) H' := ⟨fun b u n e t => st.ext b u (fun z => n (mcM b z)) e t, st.non, fun b z => z.1.elim (fun q => .inl q.1) (fun m => (st.grow b m).imp (mcM b) id), st.tab⟩
  have trk : ∀ a, C.Xs a ∨ (((M a ∧ ¬ McOf C H l rf as pm a) ∨ M' a) ∧ ¬ (dem = true ∧ PkOf C l rf as pm a)) → ∃ vs, H' a = some (.lst vs) := fun a z => by
    rcases z with x | ⟨⟨m, n⟩ | m, _⟩
    · obtain ⟨ws, e⟩ := r.trk a (.inl x)
      exact ⟨ws, st.lst (fun q => r.dis a x (mcM a q)) e⟩
    · obtain ⟨ws, e⟩ := r.trk a (.inr m)
      exact ⟨ws, st.lst n e⟩
    · exact tr a (.inr m)
  have conv : ∀ v d, (nolst d = true ∨ dem = true ∨ peeks l rf as 0 pm = []) → Rep C.K (Fb (XcOf C M H l rf as pm) M') H' v d → Rep C.K (Fb C.Xs (fun a => ((M a ∧ ¬ McOf C H l rf as pm a) ∨ M' a) ∧ ¬ (dem = true ∧ PkOf C l rf as pm a))) H' v d := fun v d hd hr => by
    by_cases hn : nolst d = true
    · exact Rep.any trk d v hn hr
    · refine hr.mono fun a z => ?_
      have npk : ¬ (C.Xs a ∨ (M a ∧ ¬ McOf C H l rf as pm a)) ∨ ¬ PkOf C l rf as pm a ∨ M' a := by
        by_cases hp : PkOf C l rf as pm a
        · rcases hd with hd | hd | hd
          · exact absurd hd hn
          · rcases z with x | ⟨_, n⟩
            · exact absurd (hp.own r).1 (r.dis a x)
            · exact absurd ⟨hd, hp⟩ n
          · obtain ⟨i, g, _⟩ := hp
            rw [hd] at g; cases g
        · exact .inr (.inl hp)
      rcases z with x | ⟨⟨m, n⟩ | m, _⟩
      · rcases npk with q | q | q
        · exact absurd (.inl x) q
        · exact .inl ⟨.inl x, fun z => r.dis a x (mcM a z), q⟩
        · exact .inr q
      · rcases npk with q | q | q
        · exact absurd (.inr ⟨m, n⟩) q
        · exact .inl ⟨.inr m, n, q⟩
        · exact .inr q
      · exact .inr m
  have convL : ∀ ds ws, (nolstL ds = true ∨ dem = true ∨ peeks l rf as 0 pm = []) → RepL C.K (Fb (XcOf C M H l rf as pm) M') H' ws ds → RepL C.K (Fb C.Xs (fun a => ((M a ∧ ¬ McOf C H l rf as pm a) ∨ M' a) ∧ ¬ (dem = true ∧ PkOf C l rf as pm a))) H' ws ds := fun ds => by
    induction ds with
    | nil => intro ws _ h; rw [RepL] at h ⊢; exact h
    | cons d ds ih =>
      intro ws hd h
      rw [RepL] at h
      obtain ⟨w, rs, rfl, h1, h2⟩ := h
      refine RepL.cons (conv w d (hd.imp (fun n => ?_) id) h1) (ih rs (hd.imp (fun n => ?_) id) h2)
      · rw [nolstL, Bool.and_eq_true] at n; exact n.1
      · rw [nolstL, Bool.and_eq_true] at n; exact n.2
  have toMn : ∀ a, M' a → ((M a ∧ ¬ McOf C H l rf as pm a) ∨ M' a) ∧ ¬ (dem = true ∧ PkOf C l rf as pm a) := fun a m => ⟨.inr m, fun z => pkM' a z.2 m⟩
  have convS : ∀ v s, (s.nol = true ∨ dem = true ∨ peeks l rf as 0 pm = []) → RepS C.K (XcOf C M H l rf as pm) M' H' v s → RepS C.K C.Xs (fun a => ((M a ∧ ¬ McOf C H l rf as pm a) ∨ M' a) ∧ ¬ (dem = true ∧ PkOf C l rf as pm a)) H' v s := fun v s hd h => by
    cases s with
    | un => exact h.elim
    | val d => exact conv v d hd h
    | own ds =>
      obtain ⟨a, ws, rfl, q1, q2, q3⟩ := h
      exact ⟨a, ws, rfl, toMn a q1, q2, convL ds ws hd q3⟩
    | nst cs =>
      obtain ⟨a, ws, rfl, q1, q2, q3, q4⟩ := h
      exact ⟨a, ws, rfl, toMn a q1, q2, q3.conv toMn conv convL hd, q4⟩
  -- the slots
  have len1 : (if dem then demotes l0 (peeks l rf as 0 pm) else l0).length = l.length := by
    cases dem with
    | true => rw [if_pos rfl, demotes_len, hl]
    | false => rw [if_neg Bool.false_ne_true, hl]
  have at1 : ∀ k, (if dem then demotes l0 (peeks l rf as 0 pm) else l0)[k]? = (match (l0[k]? : Option Sl) with
      | some (Sl.own ds) => if dem = true ∧ k ∈ peeks l rf as 0 pm then some (Sl.val (.lst ds)) else some (Sl.own ds)
      | o => o : Option Sl) := fun k => by
    cases dem with
    | true =>
      rw [if_pos rfl, demotes_get]
      cases l0[k]? with
      | none => rfl
      | some z => cases z <;> simp
    | false =>
      rw [if_neg Bool.false_ne_true]
      cases l0[k]? with
      | none => rfl
      | some z => cases z <;> simp
  -- what a slot is
  have kind : ∀ k s, (if dem then demotes l0 (peeks l rf as 0 pm) else l0)[k]? = some s → s ≠ .un →
      (refAt rf as pm = some k ∧ l0[k]? = some s ∧ ∃ v, C.σ[k]? = some (some v) ∧ RepS C.K (XcOf C M H l rf as pm) M' H' v s ∧ (s.nol = true ∨ dem = true ∨ peeks l rf as 0 pm = [])) ∨
      (refAt rf as pm ≠ some k ∧ l[k]? = some s ∧ ¬ (dem = true ∧ k ∈ peeks l rf as 0 pm)) ∨
      (refAt rf as pm ≠ some k ∧ ∃ ds, l[k]? = some (.own ds) ∧ s = .val (.lst ds) ∧ dem = true ∧ k ∈ peeks l rf as 0 pm) := fun k s e hs => by
    rw [at1] at e
    rcases h0 k with ⟨hr, s', v, h3, h4, h5, h6, h7⟩ | ⟨hr, h2⟩
    · refine .inl ⟨hr, ?_⟩
      have hk : ¬ (dem = true ∧ k ∈ peeks l rf as 0 pm) := fun z => np k hr z.2
      have e' : some s' = some s := by
        rw [h3] at e
        cases s' with
        | own ds => dsimp only at e; rw [if_neg hk] at e; exact e
        | _ => exact e
      cases e'
      exact ⟨h3, v, h5, h6, h7⟩
    · refine .inr ?_
      rw [h2] at e
      cases e2 : l[k]? with
      | none => rw [e2] at e; cases e
      | some z =>
        rw [e2] at e
        cases z with
        | own ds =>
          dsimp only at e
          split at e
          · rename_i hn
            cases e
            exact .inr ⟨hr, ds, rfl, rfl, hn.1, hn.2⟩
          · rename_i hn
            cases e
            exact .inl ⟨hr, rfl, hn⟩
        | un => cases e; exact absurd rfl hs
        | val d =>
          cases e
          refine .inl ⟨hr, rfl, fun z => ?_⟩
          obtain ⟨ds, q⟩ := peeks_own z.2
          rw [e2] at q; cases q
        | nst cs =>
          cases e
          refine .inl ⟨hr, rfl, fun z => ?_⟩
          obtain ⟨ds, q⟩ := peeks_own z.2
          rw [e2] at q; cases q
  -- an untouched slot's own
  have keep : ∀ k s v, refAt rf as pm ≠ some k → l[k]? = some s → C.σ[k]? = some (some v) → ∀ a, Ows H v s a → ¬ McOf C H l rf as pm a ∧ ∀ ws, H a = some (.lst ws) → H' a = some (.lst ws) := fun k s v hr e1 e2 a o => by
    have hb : ¬ McOf C H l rf as pm a := fun m => by
      obtain ⟨i', s', v', q1, q2, q3, q4⟩ := m
      have : k = i' := r.dj k i' a _ _ _ _ e1 q2 e2 q3 o q4
      subst this
      exact hr q1
    exact ⟨hb, fun ws e => st.lst hb e⟩
  have ext0 : ∀ b u, ¬ Fb C.Xs M b → H b = some u → NT u → H' b = some u := fun b u n e t => st.ext b u (fun z => n (.inr (mcM b z))) e t
  -- where an own place comes from
  have orig : ∀ k s v a, (if dem then demotes l0 (peeks l rf as 0 pm) else l0)[k]? = some s → C.σ[k]? = some (some v) → Ows H' v s a →
      (refAt rf as pm = some k ∧ l0[k]? = some s ∧ M' a) ∨ (refAt rf as pm ≠ some k ∧ l[k]? = some s ∧ Ows H v s a) := fun k s v a e1 e2 o => by
    rcases kind k s e1 (fun z => by subst z; exact o) with ⟨hr, h2, v', h3, h4, _⟩ | ⟨hr, h2, _⟩ | ⟨_, ds, _, h2, _⟩
    · rw [e2] at h3; cases h3
      exact .inl ⟨hr, h2, (h4.ows_M o).1⟩
    · obtain ⟨v', h3, h4⟩ := r.slot k s h2 (fun z => by subst z; exact o)
      rw [e2] at h3; cases h3
      exact .inr ⟨hr, h2, o.back h4 fun b ob => (keep k s v hr h2 e2 b ob).2⟩
    · subst h2; exact o.elim
  have newM : ∀ a, M' a → Owd l C.σ H a → McOf C H l rf as pm a := fun a m o => by
    rcases st.grow a m with q | q
    · exact q
    · obtain ⟨_, ws, e⟩ := r.owd_M o
      rw [q] at e; cases e
  refine ⟨stp, ⟨by rw [len1]; exact r.len, fun k s e hs => ?_, fun i j a s t v w e1 e2 e3 e4 o1 o2 => ?_, trk, fun a x z => ?_, fun P z => st.tab P (r.tab P z)⟩, convS, fun a z => ?_⟩
  · rcases kind k s e hs with ⟨hr, h2, v, h3, h4, h5⟩ | ⟨hr, h2, h3⟩ | ⟨hr, ds, h2, rfl, h3, h4⟩
    · exact ⟨v, h3, convS v s h5 h4⟩
    · obtain ⟨v, q1, q2⟩ := r.slot k s h2 hs
      refine ⟨v, q1, q2.move ext0 stp.fb fun a o => ?_⟩
      obtain ⟨k1, k2⟩ := keep k s v hr h2 q1 a o
      refine ⟨⟨.inl ⟨(q2.ows_M o).1, k1⟩, fun z => ?_⟩, k2⟩
      obtain ⟨hd, i', g1, g2⟩ := z
      obtain ⟨es', g3⟩ := peeks_own g1
      have : k = i' := r.dj k i' a _ _ _ _ h2 g3 q1 g2 o rfl
      subst this
      exact h3 ⟨hd, g1⟩
    · obtain ⟨b, ws, g1, g2, g3, g4⟩ := r.own k _ h2
      have hb : ¬ McOf C H l rf as pm b := (keep k _ _ hr h2 g1 b rfl).1
      refine ⟨.ref b, g1, ?_⟩
      show Rep C.K _ H' (.ref b) (.lst ds)
      rw [Rep]
      exact ⟨b, ws, rfl, .inl ⟨.inl (st.lst hb g3), fun z => z.elim (fun x => r.dis b x g2) (fun q => q.2 ⟨h3, k, h4, g1⟩)⟩, g4.step stp⟩
  · rcases orig i s v a e1 e3 o1 with ⟨r1, _, m1⟩ | ⟨r1, q1, p1⟩
    · rcases orig j t w a e2 e4 o2 with ⟨r2, _, m2⟩ | ⟨r2, q2, p2⟩
      · rw [r1] at r2; exact Option.some.inj r2
      · exact absurd (newM a m1 ⟨j, t, w, q2, e4, p2⟩) (keep j t w r2 q2 e4 a p2).1
    · rcases orig j t w a e2 e4 o2 with ⟨r2, _, m2⟩ | ⟨r2, q2, p2⟩
      · exact absurd (newM a m2 ⟨i, s, v, q1, e3, p1⟩) (keep i s v r1 q1 e3 a p1).1
      · exact r.dj i j a s t v w q1 q2 e3 e4 p1 p2
  · rcases z.1 with ⟨m, _⟩ | m
    · exact r.dis a x m
    · rcases st.grow a m with q | q
      · exact r.dis a x (mcM a q)
      · obtain ⟨ws, e⟩ := r.trk a (.inl x)
        rw [q] at e; cases e
  · obtain ⟨k, s, v, e1, e2, o⟩ := z
    rcases orig k s v a e1 e2 o with ⟨r1, q1, m1⟩ | ⟨r1, q1, p1⟩
    · exact .inl ⟨k, s, v, r1, q1, e2, o⟩
    · exact .inr ⟨⟨k, s, v, q1, e2, p1⟩, (keep k s v r1 q1 e2 a p1).1⟩
end
end DL

set_option Elab.async false
set_option linter.all false
set_option maxRecDepth 100000
set_option maxHeartbeats 4000000
namespace DL
open PySem PySem.Spec PyProof.Rows L2

theorem RepLoc.keep {K : PySem.W.Frag} {X M : Ad} {σ : L2.St} {H H' : Hp} {l : Loc} (r : RepLoc tb K X M σ H l) (k : ∀ b u, H b = some u → NT u → H' b = some u) (kt : ∀ P, GxR.TabG H P → GxR.TabG H' P) : RepLoc tb K X M σ H' l :=
  r.same (fun b u _ e t => k b u e t) (fun b z => .inl z) (fun a z => ⟨(r.owd_M z).1, fun ws e => k a _ e (fun _ z => nomatch z)⟩) (fun a z => let ⟨vs, e⟩ := r.trk a z; ⟨vs, k a _ e fun _ z => nomatch z⟩) r.dis (fun P z => kt P (r.tab P z))
def callRest (Γ : Gam) (f : Nat) (rf : Option Nat) (pm : List Nat) (r : List A × Loc) : R (Sl × Loc) := match argsOf r.2 rf r.1 0 pm with
    | none => .bad
    | some args => match Γ f args with
      | .ok (s, outs) => (match after r.2 rf r.1 pm s outs with
        | some l1 => .ok (s, l1)
        | none => .bad)
      | .exc x _ => if rf.isNone then .exc x r.2 else .bad
      | .bad => .bad
theorem evX_call (Γ : Gam) (f : Nat) (rf : Option Nat) (pm : List Nat) (es : List E) (l : Loc) : evX Γ (.call f rf pm es) l = (evAs Γ es l).bind (callRest Γ f rf pm) := by
  rw [evX.eq_def]; rfl
section
variable {C : Cf} {M : Ad} {H : Hp} {l : Loc} {rf : Option Nat} {as : List A} {pm : List Nat} {vs : List V} {Γ : Gam} {f : Nat} {Q : VK}
theorem call_rep (r : RepLoc C.xi.tb C.K C.Xs M C.σ H l) (ra : RepAs C M H vs as) (g : Po C M H (fun s l' M' H' => ∀ v, RepR C.K C.Xs M' C.σ l' H' v s → Q v H') (callRest Γ f rf pm (as, l))) :
    spOf C.K C.xi pm.length rf (Γ f) (gather pm vs) H Q (fun cls d H' => C.W cls d C.σ H') := by
  unfold callRest at g
  dsimp only at g
  cases ea : argsOf l rf as 0 pm with
  | none => rw [ea] at g; exact g.elim
  | some args =>
    rw [ea] at g
    dsimp only at g
    cases eg : Γ f args with
    | bad => rw [eg] at g; exact g.elim
    | exc x l' =>
      rw [eg] at g
      dsimp only at g
      cases rf with
      | some j => exact g.elim
      | none =>
        have np : ∀ i, refAt none as pm = some i → i ∉ peeks l none as 0 pm := fun i h => nomatch h
        obtain ⟨h1, h2, h3, h4, h5⟩ := args_rep r ra ea np
        refine ⟨_, _, args, h4, h1, h2, h3, ?_⟩
        rw [eg]
        intro cls d M' H' st hx
        have k : ∀ b u, H b = some u → NT u → H' b = some u := fun b u e t => st.ext b u (fun z => by obtain ⟨_, _, _, q, _⟩ := z; cases q) e t
        exact g cls d M H' ⟨fun b u _ e t => k b u e t, st.non, fun b z => .inl z, st.tab⟩ (r.keep k st.tab) hx
    | ok o =>
      obtain ⟨s, outs⟩ := o
      rw [eg] at g
      dsimp only at g
      cases ef : after l rf as pm s outs with
      | none => rw [ef] at g; exact g.elim
      | some l1 =>
        rw [ef] at g
        have np : ∀ i, refAt rf as pm = some i → i ∉ peeks l rf as 0 pm := fun i h => by
          unfold after at ef
          cases rf with
          | none => cases h
          | some j =>
            rw [h] at ef
            (try dsimp only at ef)
            split at ef
            · (try dsimp only at ef)
              split at ef
              · cases ef
              · rename_i hn
                intro z
                exact hn (by simpa using z)
            · (try dsimp only at ef)
              split at ef
              · cases ef
              · rename_i hn
                intro z
                exact hn (by simpa using z)
            · cases ef
        obtain ⟨h1, h2, h3, h4, h5⟩ := args_rep r ra ea np
        refine ⟨_, _, args, h4, h1, h2, h3, ?_⟩
        rw [eg]
        intro v M' H' st ro rr
        dsimp only at ro rr
        -- the slots behind it
        obtain ⟨dem, l0, hl1, hl0, hd, h0, hout⟩ : ∃ (dem : Bool) (l0 : Loc), l1 = (if dem then demotes l0 (peeks l rf as 0 pm) else l0) ∧ l0.length = l.length ∧ (nolst s.d = true ∨ dem = true ∨ peeks l rf as 0 pm = []) ∧
            (∀ k, (refAt rf as pm = some k ∧ ∃ s v, l0[k]? = some s ∧ s.lin = true ∧ C.σ[k]? = some (some v) ∧ RepS C.K (XcOf C M H l rf as pm) M' H' v s ∧ (s.nol = true ∨ dem = true ∨ peeks l rf as 0 pm = [])) ∨
              (refAt rf as pm ≠ some k ∧ l0[k]? = l[k]?)) ∧
            (∀ k s v, refAt rf as pm = some k → l0[k]? = some s → C.σ[k]? = some (some v) → ∃ j : Nat, outs[j]? = some s ∧ (gather pm vs)[j]? = some v) := by
          unfold after at ef
          cases rf with
          | none =>
            (try dsimp only at ef)
            cases ef
            refine ⟨!((peeks l none as 0 pm).isEmpty || nolst s.d), l, ?_, rfl, ?_, fun k => .inr ⟨(fun z => by cases z), rfl⟩, fun k s v z => by cases z⟩
            · cases ((peeks l none as 0 pm).isEmpty || nolst s.d) <;> rfl
            · cases e1 : (peeks l none as 0 pm).isEmpty with
              | true => exact .inr (.inr (by simpa using e1))
              | false =>
                cases e2 : nolst s.d with
                | true => exact .inl rfl
                | false => exact .inr (.inl rfl)
          | some j =>
            cases hr : refAt (some j) as pm with
            | none => rw [hr] at ef; cases ef
            | some i =>
              rw [hr] at ef
              (try dsimp only at ef)
              obtain ⟨j', t, w, ej, g1, g2, g3, g4, g5⟩ := h5 i hr
              cases ej
              have il : i < l.length := (List.getElem?_eq_some_iff.mp g1).1
              obtain ⟨z, hz1, hz2, hz3⟩ : ∃ z : Sl, outs[j]? = some z ∧ z.lin = true ∧ (if (peeks l (some j) as 0 pm).contains i then none else some (if (peeks l (some j) as 0 pm).isEmpty || (nolst s.d && z.nol) then l.set i z else demotes (l.set i z) (peeks l (some j) as 0 pm))) = some l1 := by
                split at ef
                · rename_i ds e1
                  exact ⟨.own ds, e1, rfl, ef⟩
                · rename_i cs e1
                  exact ⟨.nst cs, e1, rfl, ef⟩
                · cases ef
              split at hz3
              · cases hz3
              · cases hz3
                have rz : RepS C.K (XcOf C M H l (some j) as pm) M' H' w z := by
                  obtain ⟨w', q1, q2⟩ := ro.slot j z hz1 (fun e => by subst e; cases hz2)
                  rw [List.getElem?_map, g4] at q1
                  cases q1
                  exact q2
                refine ⟨!((peeks l (some j) as 0 pm).isEmpty || (nolst s.d && z.nol)), l.set i z, ?_, by rw [List.length_set], ?_, fun k => ?_, fun k s' v' er el eσ => ?_⟩
                · cases ((peeks l (some j) as 0 pm).isEmpty || (nolst s.d && z.nol)) <;> rfl
                · cases e3 : (peeks l (some j) as 0 pm).isEmpty with
                  | true => exact .inr (.inr (by simpa using e3))
                  | false =>
                    cases e4 : nolst s.d with
                    | true => exact .inl rfl
                    | false => exact .inr (.inl rfl)
                · by_cases hk : k = i
                  · subst hk
                    refine .inl ⟨rfl, z, w, List.getElem?_set_self il, hz2, g2, rz, ?_⟩
                    cases e3 : (peeks l (some j) as 0 pm).isEmpty with
                    | true => exact .inr (.inr (by simpa using e3))
                    | false =>
                      cases e4 : nolst s.d with
                      | true =>
                        cases e5 : z.nol with
                        | true => exact .inl rfl
                        | false => exact .inr (.inl rfl)
                      | false => exact .inr (.inl rfl)
                  · exact .inr ⟨fun z => hk (Option.some.inj z).symm, List.getElem?_set_ne (Ne.symm hk)⟩
                · cases er
                  rw [List.getElem?_set_self il] at el
                  cases el
                  rw [g2] at eσ
                  cases eσ
                  exact ⟨j, hz1, g4⟩
        obtain ⟨Mn, s1, s2, s3, s4⟩ := after_core dem r st (fun a z => ro.trk a z) ro.dis np hl0 h0
        rw [← hl1] at s2 s4
        refine g Mn H' s1 s2 v (RepR.mk (s3 v s ?_ rr.toS) fun a o z => ?_)
        · rcases hd with hd | hd
          · refine .inl ?_
            cases s with
            | un => exact rr.elim
            | val d => exact hd
            | own ds =>
              have : nolst (.lst ds) = true := hd
              rw [nolst] at this; cases this
            | nst cs =>
              have : nolst (.lst (cs.map Cl.d)) = true := hd
              rw [nolst] at this; cases this
          · exact .inr hd
        · have am := (rr.toS.ows_M o).1
          rcases s4 a z with ⟨k, s', v', q1, q2, q3, q4⟩ | ⟨q1, q2⟩
          · obtain ⟨j, p1, p2⟩ := hout k s' v' q1 q2 q3
            exact rr.sep o ⟨j, s', v', p1, by rw [List.getElem?_map, p2]; rfl, q4⟩
          · rcases st.grow a am with q | q
            · exact q2 q
            · obtain ⟨_, ws, e⟩ := r.owd_M q1
              rw [q] at e; cases e
end
end DL

set_option Elab.async false
set_option linter.all false
set_option maxRecDepth 100000
set_option maxHeartbeats 4000000
namespace DL
open PySem PySem.Spec PyProof.Rows L2

theorem evAs_nil (Γ : Gam) (l : Loc) : evAs Γ [] l = .ok ([], l) := by rw [evAs.eq_def]
theorem evAs_append (Γ : Gam) : ∀ (xs ys : List E) (l : Loc), evAs Γ (xs ++ ys) l = (evAs Γ xs l).bind fun r => (evAs Γ ys r.2).bind fun r2 => .ok (r.1 ++ r2.1, r2.2)
  | [], ys, l => by
    rw [evAs_nil, List.nil_append]
    simp only [R.bind]
    cases evAs Γ ys l <;> rfl
  | x :: xs, ys, l => by
    rw [List.cons_append, evAs_cons, evAs_cons]
    cases evA1 Γ x l with
    | bad => rfl
    | exc x l => rfl
    | ok r =>
      simp only [R.bind]
      rw [evAs_append Γ xs ys r.2]
      cases evAs Γ xs r.2 with
      | bad => rfl
      | exc x l => rfl
      | ok r2 =>
        simp only [R.bind]
        cases evAs Γ ys r2.2 <;> rfl
theorem RepAs.append {C : Cf} {M : Ad} {H : Hp} : ∀ {as bs : List A} {vs ws : List V}, RepAs C M H vs as → RepAs C M H ws bs → RepAs C M H (vs ++ ws) (as ++ bs)
  | [], bs, [], ws, _, h => h
  | a :: as, bs, v :: vs, ws, h, g => ⟨h.1, RepAs.append h.2 g⟩
  | [], _, _ :: _, _, h, _ => h.elim
  | _ :: _, _, [], _, h, _ => h.elim

/-- a def as a caller sees it -/
structure Callee (X : Cx) (xi : XI) (k : Nat) (x : Str) (rf : Option Nat) (F : List Sl → R (Sl × List Sl)) (shs : List Shape) : Prop where
  ex : ∃ (f : Addr) (fd : FuncData) (ps : List Str), X.mg x = some (.ref f) ∧ PySem.W.keepIn X.K (.ref f) = true ∧ FnOk X.prog X.w X.K X.mg X.base (L2.CX X.prog X.w) k f fd ps (spOf X.K xi ps.length rf F) ∧
    ∀ sh ∈ shs, ShapeOk X.K fd ps sh ∧ sh.pm.length = ps.length
section
variable {X : Cx} {W : WX} {xi : XI} {Γ : Gam} {k f : Nat} {x : Str} {rf : Option Nat} {shs : List Shape} {sh : Shape} {p pos : Pos}
theorem pd_call {es : List Expr} {kws : List Keyword} {es' ks' : List E} (cl : Callee X xi k x rf (Γ f) shs) (hs : sh ∈ shs) (hr : Room k X.A) (tk : Takes X W) (hg : Gl X x) (hdb : (x == ("__debug__" : Str)) = false)
    (ha : PLA X W xi es (evAs Γ es')) (hk : PKA X W xi kws (evAs Γ ks')) (hst : es.all notStar = true) (hnm : kws.all (fun k => k.arg.isSome) = true) (hks : kws.filterMap (·.arg) = sh.ks) (hn : sh.n = es.length) (hl : es'.length = es.length) (hl2 : ks'.length = sh.ks.length) :
    PD X W xi (.Call (.Name x p) es kws pos) (evX Γ (.call f rf sh.pm (es' ++ ks'))) := by
  obtain ⟨a, fd, ps, hm, hkp, F, hsh⟩ := cl.ex
  obtain ⟨hb, hlen⟩ := hsh sh hs
  rw [← hlen] at F
  -- the lengths of what is evaluated
  have lenE : ∀ (xs : List E) (l : Loc) r, evAs Γ xs l = .ok r → r.1.length = xs.length := by
    intro xs
    induction xs with
    | nil => intro l r h; rw [evAs_nil] at h; cases h; rfl
    | cons e xs ih =>
      intro l r h
      rw [evAs_cons] at h
      cases e1 : evA1 Γ e l with
      | bad => rw [e1] at h; cases h
      | exc x l => rw [e1] at h; cases h
      | ok r1 =>
        rw [e1] at h
        simp only [R.bind] at h
        cases e2 : evAs Γ xs r1.2 with
        | bad => rw [e2] at h; cases h
        | exc x l => rw [e2] at h; cases h
        | ok r2 =>
          rw [e2] at h
          cases h
          show (r1.1 :: r2.1).length = _
          rw [List.length_cons, List.length_cons, ih _ _ e2]
  have e0 : ∀ l, evX Γ (.call f rf sh.pm (es' ++ ks')) l = (evAs Γ es' l).bind fun r => (evAs Γ ks' r.2).bind fun r2 => callRest Γ f rf sh.pm (r.1 ++ r2.1, r2.2) := fun l => by
    rw [evX_call, evAs_append]
    cases evAs Γ es' l with
    | bad => rfl
    | exc x l => rfl
    | ok r =>
      simp only [R.bind]
      cases evAs Γ ks' r.2 <;> rfl
  obtain ⟨t, ht, q⟩ := ha.ex
  obtain ⟨u, hu, o⟩ := hk.ex
  cases es with
  | nil =>
    have n0 : es' = [] := List.eq_nil_of_length_eq_zero hl
    subst n0
    cases kws with
    | nil =>
      have k0 : sh.ks = [] := hks.symm
      have k1 : ks' = [] := List.eq_nil_of_length_eq_zero (by rw [hl2, k0]; rfl)
      subst k1
      refine ⟨_, pe_call00 F hr hg hm hkp hb tk hn k0 hdb, fun Xs σ H l M Q rl g => ?_⟩
      rw [e0, evAs_nil] at g
      simp only [R.bind, evAs_nil] at g
      refine ⟨by rw [hn, k0]; rfl, ?_⟩
      exact call_rep (C := ⟨X.K, Xs, W, xi, σ⟩) (as := []) (vs := []) rl trivial g
    | cons kw kws =>
      refine ⟨_, pe_callK0 F hr hg hm hkp hb tk hu hn hnm hks hdb, fun Xs σ H l M Q rl g => ?_⟩
      rw [e0, evAs_nil] at g
      dsimp only [R.bind] at g
      cases e2 : evAs Γ ks' l with
      | bad => rw [e2] at g; exact g.elim
      | exc x l1 =>
        rw [e2] at g
        refine o Xs σ H l M _ rl ?_
        rw [e2]; exact g
      | ok r2 =>
        have ll := lenE _ _ _ e2
        refine o Xs σ H l M _ rl ?_
        rw [e2] at g ⊢
        dsimp only [R.bind] at g
        intro M1 H1 st1 rl1 vs rv
        refine ⟨by rw [rv.length, ll, hl2, hn]; simp, ?_⟩
        exact call_rep (C := ⟨X.K, Xs, W, xi, σ⟩) rl1 rv (g.shift st1)
  | cons e es =>
    cases kws with
    | nil =>
      have k0 : sh.ks = [] := hks.symm
      have k1 : ks' = [] := List.eq_nil_of_length_eq_zero (by rw [hl2, k0]; rfl)
      subst k1
      refine ⟨_, pe_callP F hr hg hm hkp hb tk ht hst k0 hdb, fun Xs σ H l M Q rl g => ?_⟩
      rw [e0] at g
      cases e2 : evAs Γ es' l with
      | bad => rw [e2] at g; exact g.elim
      | exc x l1 =>
        rw [e2] at g
        refine q Xs σ H l M _ rl ?_
        rw [e2]; exact g
      | ok r2 =>
        have ll := lenE _ _ _ e2
        refine q Xs σ H l M _ rl ?_
        rw [e2] at g ⊢
        dsimp only [R.bind] at g
        rw [evAs_nil] at g
        dsimp only at g
        rw [List.append_nil] at g
        intro M1 H1 st1 rl1 vs rv
        refine ⟨by rw [rv.length, ll, hl, hn, k0]; rfl, ?_⟩
        exact call_rep (C := ⟨X.K, Xs, W, xi, σ⟩) rl1 rv (Po.shift (show Po _ _ _ _ (callRest Γ f rf sh.pm (r2.1, r2.2)) from g) st1)
    | cons kw kws =>
      refine ⟨_, pe_callPK F hr hg hm hkp hb tk ht hu hst hnm hks hdb, fun Xs σ H l M Q rl g => ?_⟩
      rw [e0] at g
      cases e2 : evAs Γ es' l with
      | bad => rw [e2] at g; exact g.elim
      | exc x l1 =>
        rw [e2] at g
        refine q Xs σ H l M _ rl ?_
        rw [e2]; exact g
      | ok r2 =>
        have ll := lenE _ _ _ e2
        refine q Xs σ H l M _ rl ?_
        rw [e2] at g ⊢
        dsimp only [R.bind] at g
        intro M1 H1 st1 rl1 vs rv
        cases e3 : evAs Γ ks' r2.2 with
        | bad => rw [e3] at g; exact g.elim
        | exc x l1 =>
          rw [e3] at g
          refine o Xs σ H1 r2.2 M1 _ rl1 ?_
          rw [e3]
          exact Po.shift (r := .exc x l1) g st1
        | ok r3 =>
          have ll3 := lenE _ _ _ e3
          refine o Xs σ H1 r2.2 M1 _ rl1 ?_
          rw [e3] at g ⊢
          dsimp only [R.bind] at g
          intro M2 H2 st2 rl2 zs rz
          have rv2 := rv.step st2
          refine ⟨by rw [rv.length, ll, hl, hn], by rw [List.length_append, rv.length, rz.length, ll, ll3, hl, hl2, hn], ?_⟩
          exact call_rep (C := ⟨X.K, Xs, W, xi, σ⟩) rl2 (rv2.append rz) (g.shift (st1.trans st2))
end
end DL

set_option Elab.async false
set_option linter.all false
set_option maxRecDepth 100000
set_option maxHeartbeats 4000000
namespace DL
open PySem PySem.Spec PyProof.Rows L2

section
variable {X : Cx} {W : WX} {xi : XI} {Γ : Gam}
theorem RepR.pkd {K : PySem.W.Frag} {Xs M : Ad} {σ : L2.St} {l : Loc} {H : Hp} {v : V} {s : Sl} {j : Int} (h : RepR K Xs M σ l H v s) (e : s.d = .int j) : Pk K (Fb Xs M) H v (.int j) := by
  cases s with
  | un => exact h.elim
  | val d => cases e; exact Rep.pk h
  | own ds => cases e
  | nst cs => cases e
theorem chain_core {a b c : Expr} {a' b' c' : E} {p q : Prim} (ha : PD X W xi a (evX Γ a')) (hb : PD X W xi b (evX Γ b')) (hc : PD X W xi c (evX Γ c')) :
    ∃ ta tb tc, PE X a ta ∧ PE X b tb ∧ PE X c tc ∧ ∀ (Xs : Ad) (σ : L2.St) (H : Hp) (l : Loc) (M : Ad) (Q : VK), RepLoc xi.tb X.K Xs M σ H l →
      Po ⟨X.K, Xs, W, xi, σ⟩ M H (fun s l' M' H' => ∀ v, RepR X.K Xs M' σ l' H' v s → Q v H') (evX Γ (.chain p q a' b' c') l) → tChain (RB X.K p) (RB X.K q) ta tb tc σ H Q := by
  obtain ⟨ta, hta, qa⟩ := ha.ex
  obtain ⟨tb, htb, qb⟩ := hb.ex
  obtain ⟨tc, htc, qc⟩ := hc.ex
  refine ⟨ta, tb, tc, hta, htb, htc, fun Xs σ H l M Q r g => ?_⟩
  rw [evX.eq_def] at g
  dsimp only at g
  refine qa Xs σ H l M _ r (g.bind.imp fun s1 l1 M1 H1 st1 rl1 g1 v rv => ?_)
  obtain ⟨M1', hm1, rl1', rv'⟩ := RepR.frozen rl1 rv
  refine qb Xs σ H1 l1 M1' _ rl1' ((g1.shift (Step.refl.less hm1)).bind.imp fun s2 l2 M2 H2 st2 rl2 g2 w rw => ?_)
  obtain ⟨M2', hm2, rl2', rw'⟩ := RepR.frozen rl2 rw
  have rv2 : Rep X.K (Fb Xs M2') H2 v s1.d := Rep.step (st2.less hm2) rv'
  have g3 := g2.shift (Step.refl.less hm2)
  dsimp only at g3
  cases e1 : primD p [s1.d, s2.d] with
  | none => rw [e1] at g3; exact g3.elim
  | some z =>
    rw [e1] at g3
    refine ⟨Fb Xs M2', s1.d, s2.d, z, rl2'.tr (C := ⟨X.K, Xs, W, xi, σ⟩), rv2.pk, rw'.pk, e1, ?_⟩
    split at g3
    · rename_i e2
      cases e2
      intro v3 H3 hH3 r3
      have e3 : v3 = .bl true := by simpa [Rep] using r3
      subst e3
      refine ⟨true, rfl, ?_⟩
      rw [if_pos rfl]
      -- the heap behind the first comparison
      have hst : Step M2' H2 M2' H3 ∧ RepLoc xi.tb X.K Xs M2' σ H3 l2 := by
        rcases hH3 with rfl | ⟨pp, o, n, rfl⟩
        · exact ⟨Step.refl, rl2'⟩
        · exact ⟨Step.new n, rl2'.new n⟩
      refine qc Xs σ H3 l2 M2' _ hst.2 ((g3.shift hst.1).bind.imp fun s4 l4 M4 H4 st4 rl4 g4 u ru => ?_)
      obtain ⟨M4', hm4, rl4', ru'⟩ := RepR.frozen rl4 ru
      have g5 := g4.shift (Step.refl.less hm4)
      dsimp only at g5
      cases e4 : primD q [s2.d, s4.d] with
      | none => rw [e4] at g5; exact g5.elim
      | some z2 =>
        rw [e4] at g5
        exact ⟨Fb Xs M4', s2.d, s4.d, z2, rl4'.tr (C := ⟨X.K, Xs, W, xi, σ⟩), (Rep.step ((hst.1.trans st4).less hm4) rw').pk, ru'.pk, e4, fin_of (C := ⟨X.K, Xs, W, xi, σ⟩) rl4' g5 fun z => primD_un (e4.trans (congrArg some z))⟩
    · rename_i e2
      cases e2
      intro v3 H3 hH3 r3
      have e3 : v3 = .bl false := by simpa [Rep] using r3
      subst e3
      refine ⟨false, rfl, ?_⟩
      rw [if_neg Bool.false_ne_true]
      have hst : Step M2' H2 M2' H3 ∧ RepLoc xi.tb X.K Xs M2' σ H3 l2 := by
        rcases hH3 with rfl | ⟨pp, o, n, rfl⟩
        · exact ⟨Step.refl, rl2'⟩
        · exact ⟨Step.new n, rl2'.new n⟩
      exact g3 M2' H3 hst.1 hst.2 _ (RepR.ofVal (Rep.bl _))
    · exact g3.elim
theorem pd_chain {a b c : Expr} {a' b' c' : E} {p q : Prim} {op op' : CmpOp} {pos : Pos} (ho : OpR X (compareOp op) (RB X.K p)) (ho' : OpR X (compareOp op') (RB X.K q)) (ha : PD X W xi a (evX Γ a')) (hb : PD X W xi b (evX Γ b')) (hc : PD X W xi c (evX Γ c'))
    (hm : lastMarks [op, op'] [b, c] = false) : PD X W xi (.Compare a [op, op'] [b, c] pos) (evX Γ (.chain p q a' b' c')) := by
  obtain ⟨ta, tb, tc, h1, h2, h3, g⟩ := chain_core (p := p) (q := q) ha hb hc
  exact ⟨_, pe_chain ho ho' h1 h2 h3 hm, g⟩
theorem ptd_chain {a b c : Expr} {a' b' c' : E} {p q : Prim} {op op' : CmpOp} {pos : Pos} (ho : OpR X (compareOp op) (RB X.K p)) (ho' : OpR X (compareOp op') (RB X.K q)) (ha : PD X W xi a (evX Γ a')) (hb : PD X W xi b (evX Γ b')) (hc : PD X W xi c (evX Γ c'))
    (hm : lastMarks [op, op'] [b, c] = false) (hq : ∀ ds s, primD q ds = some s → ∃ b, s = .val (.bl b)) : PTD X W xi (.Compare a [op, op'] [b, c] pos) (evT Γ (.chain p q a' b' c')) := by
  obtain ⟨ta, tb, tc, h1, h2, h3, g⟩ := chain_core (p := p) (q := q) ha hb hc
  refine ⟨_, pt_chain ho ho' h1 h2 h3 hm, fun Xs σ H l M Q r k => g Xs σ H l M _ r ?_⟩
  rw [evT.eq_def] at k
  rw [evX.eq_def]
  dsimp only at k ⊢
  cases e1 : evX Γ a' l with
  | bad => rw [e1] at k; exact k.elim
  | exc x l1 => rw [e1] at k; exact k
  | ok r1 =>
    rw [e1] at k
    dsimp only [R.bind] at k ⊢
    cases e2 : evX Γ b' r1.2 with
    | bad => rw [e2] at k; exact k.elim
    | exc x l1 => rw [e2] at k; exact k
    | ok r2 =>
      rw [e2] at k
      dsimp only at k ⊢
      split at k
      · cases e3 : evX Γ c' r2.2 with
        | bad => rw [e3] at k; exact k.elim
        | exc x l1 => rw [e3] at k; exact k
        | ok r3 =>
          rw [e3] at k
          dsimp only at k ⊢
          cases e4 : primD q [r2.1.d, r3.1.d] with
          | none => rw [e4] at k; exact k.elim
          | some z =>
            rw [e4] at k
            obtain ⟨b, rfl⟩ := hq _ _ e4
            intro M1 H1 st1 rl1 v rv
            have e : v = .bl b := by simpa [RepR, Rep] using rv
            subst e
            exact ⟨b, rfl, k M1 H1 st1 rl1⟩
      · intro M1 H1 st1 rl1 v rv
        have e : v = .bl false := by simpa [RepR, Rep] using rv
        subst e
        exact ⟨false, rfl, k M1 H1 st1 rl1⟩
      · exact k.elim
end

/-! ## the translation -/
structure FnI where
  ix : Nat
  rf : Option Nat
  sh : List Shape
structure TC where
  N : List Str
  names : List (Str × NameKind)
  fn : Str → Option FnI
  cn : Str → Option D
  bl : List Str
  gd : Nat
  mu : List Nat
  nu : List Nat
  ny : List Nat
  nr : Bool
  nk : List Nat
def opP : Operator → Option Prim
  | .Add => some .add | .Sub => some .sub | .Mult => some .mul | .FloorDiv => some .fdiv | .Mod => some .mod | .Pow => some .pow | _ => none
def cmpP : CmpOp → Option Prim
  | .Eq => some .eq | .NotEq => some .ne | .Lt => some .lt | .LtE => some .le | .Gt => some .gt | .GtE => some .ge | .Is => some .iz | .IsNot => some .izn | .In => some .isin | .NotIn => some .notin
def visB (T : TC) (x : Str) : Bool := match T.names.lookup x with
  | some .local => true
  | some .cell => true
  | some .free => true
  | _ => false
def glB (T : TC) (x : Str) : Bool := match T.names.lookup x with
  | some .globalImplicit => true
  | _ => false
/-- a built-in's name, used as such -/
def isBl (T : TC) (x : Str) : Bool := glB T x && T.bl.contains x
def plainIx : Expr → Bool
  | .Slice .. => false
  | _ => true
def isTy (x : Str) : Option Nat := if x == ("int" : Str) then some 0 else if x == ("bool" : Str) then some 1 else if x == ("str" : Str) then some 2 else if x == ("tuple" : Str) then some 3 else if x == ("list" : Str) then some 4 else none
/-- built-ins that are called with values -/
def blP (x : Str) (n : Nat) : Option Prim :=
  if x == ("abs" : Str) && n == 1 then some .abs else if x == ("len" : Str) && n == 1 then some .len else if x == ("int" : Str) && n == 1 then some .int
  else if x == ("list" : Str) && n == 1 then some .lst else if x == ("tuple" : Str) && n == 1 then some .tup else if x == ("min" : Str) && n == 2 then some .mn else if x == ("max" : Str) && n == 2 then some .mx
  else if x == ("min" : Str) && n == 1 then some .mn else if x == ("max" : Str) && n == 1 then some .mx else if x == ("sum" : Str) && n == 1 then some .sum else if x == ("sorted" : Str) && n == 1 then some .srt else none
def trL (tr : Expr → Option E) : List Expr → Option (List E)
  | [] => some []
  | e :: es => match tr e, trL tr es with
    | some a, some r => if notStar e then some (a :: r) else none
    | _, _ => none
def trK (tr : Expr → Option E) : List Keyword → Option (List E)
  | [] => some []
  | ⟨_, e, _⟩ :: es => match tr e, trK tr es with
    | some a, some r => some (a :: r)
    | _, _ => none
def okName (x : Str) : Bool := !(x == ("__debug__" : Str)) && !(x == ("__classdict__" : Str))
def trE1 (T : TC) (tr : Expr → Option E) : Expr → Option E
  | .Constant (.int i) _ _ => some (.cst (.int i))
  | .Constant (.bool b) _ _ => some (.cst (.bl b))
  | .Constant .none _ _ => some (.cst .non)
  | .Constant (.str x) _ _ => some (.cst (.str x))
  | .Name x _ => match T.N.idxOf? x with
    | some i => if visB T x && okName x then some (.var i) else none
    | none => if glB T x && okName x then (T.cn x).map .cst else none
  | .BinOp a op b _ => match opP op, tr a, tr b with
    | some p, some a', some b' => some (.prim p [a', b'])
    | _, _, _ => none
  | .UnaryOp .USub a _ => (tr a).map fun a' => .prim .neg [a']
  | .UnaryOp .Not a _ => (tr a).map .not
  | .Compare a [op] [b] _ => match cmpP op, tr a, tr b with
    | some p, some a', some b' => if behindInMarks op b then none else some (.prim p [a', b'])
    | _, _, _ => none
  | .Compare a [op, op'] [b, c] _ => match cmpP op, cmpP op', tr a, tr b, tr c with
    | some p, some q, some a', some b', some c' => if lastMarks [op, op'] [b, c] then none else some (.chain p q a' b' c')
    | _, _, _, _, _ => none
  | .BoolOp o [a] _ => tr a
  | .BoolOp .And (a :: b :: rest) pos => match tr a, tr (.BoolOp .And (b :: rest) pos) with
    | some a', some b' => some (.and a' b')
    | _, _ => none
  | .BoolOp .Or (a :: b :: rest) pos => match tr a, tr (.BoolOp .Or (b :: rest) pos) with
    | some a', some b' => some (.or a' b')
    | _, _ => none
  | .IfExp c a b _ => match tr c, tr a, tr b with
    | some c', some a', some b' => some (.ite c' a' b')
    | _, _, _ => none
  | .Tuple es _ _ => (trL (tr) es).map (.pack true)
  | .List es _ => (trL (tr) es).map (.pack false)
  | .Subscript a (.Slice none none none _) _ => (tr a).map fun a' => .slc a' false false []
  | .Subscript a (.Slice (some lo) none none _) _ => match tr a, tr lo with
    | some a', some l => some (.slc a' true false [l])
    | _, _ => none
  | .Subscript a (.Slice none (some hi) none _) _ => match tr a, tr hi with
    | some a', some h => some (.slc a' false true [h])
    | _, _ => none
  | .Subscript a (.Slice (some lo) (some hi) none _) _ => match tr a, tr lo, tr hi with
    | some a', some l, some h => some (.slc a' true true [l, h])
    | _, _, _ => none
  | .Subscript a b _ => match tr a, tr b with
    | some a', some b' => if plainIx b then some (.prim .ix [a', b']) else none
    | _, _ => none
  | .Call (.Name x _) es kws _ => match T.fn x with
    | some fi => if glB T x && okName x && kws.all (fun k => k.arg.isSome) then
        match fi.sh.find? (fun s => s.n == es.length && decide (s.ks = kws.filterMap (·.arg))), trL (tr) es, trK (tr) kws with
        | some sh, some es', some ks' => some (.call fi.ix fi.rf sh.pm (es' ++ ks'))
        | _, _, _ => none
      else none
    | none => if isBl T x && kws.isEmpty && okName x && !(x == ("__name__" : Str)) then
        (if x == ("isinstance" : Str) then match es with
          | [a, .Name t _] => (match tr a, isTy t with
            | some a', some k => if isBl T t && notStar a && T.bl.contains ("isinstance" : Str) then some (.prim (.ist k) [a']) else none
            | _, _ => none)
          | _ => none
        else match blP x es.length, trL (tr) es with
          | some p, some es' => some (.prim p es')
          | _, _ => none)
      else none
  | _ => none
end DL

set_option Elab.async false
set_option linter.all false
set_option maxRecDepth 100000
set_option maxHeartbeats 4000000
namespace DL
open PySem PySem.Spec PyProof.Rows L2

section
variable {X : Cx} {W : WX} {xi : XI} {Γ : Gam}
theorem evAs_one (Γ : Gam) (a : E) (l : Loc) : evAs Γ [a] l = (evA1 Γ a l).bind fun r => .ok ([r.1], r.2) := by
  rw [evAs_cons]
  cases evA1 Γ a l with
  | bad => rfl
  | exc x l => rfl
  | ok r => dsimp only [R.bind]; rw [evAs_nil]
theorem evIs_nil (Γ : Gam) (l : Loc) : evIs Γ [] l = .ok ([], l) := by rw [evIs.eq_def]
theorem evIs_cons (Γ : Gam) (e : E) (es : List E) (l : Loc) : evIs Γ (e :: es) l = (evX Γ e l).bind fun r => match r.1 with
    | .val (.int i) => (evIs Γ es r.2).bind fun r2 => .ok (i :: r2.1, r2.2)
    | _ => .bad := by rw [evIs.eq_def]; all_goals rfl
theorem RepR.int' {K : PySem.W.Frag} {Xs M : Ad} {σ : L2.St} {l : Loc} {H : Hp} {v : V} {i : Int} (h : RepR K Xs M σ l H v (.val (.int i))) : v = .int i := by simpa [RepR, Rep] using h
/-- the value that is cut, and its parts -/
theorem slc_core {a : Expr} {a' : E} {b1 b2 : Bool} {es' : List E} (ha : PAD X W xi a (evA1 Γ a')) :
    ∃ ta, PE X a ta ∧ ∀ (Xs : Ad) (σ : L2.St) (H : Hp) (l : Loc) (M : Ad) (Q : VK) (tl th : TO), RepLoc xi.tb X.K Xs M σ H l →
      Po ⟨X.K, Xs, W, xi, σ⟩ M H (fun s l' M' H' => ∀ v, RepR X.K Xs M' σ l' H' v s → Q v H') (evX Γ (.slc a' b1 b2 es') l) →
      (∀ (M1 : Ad) (H1 : Hp) (l1 : Loc) (R : Option Int → Option Int → Hp → Prop), RepLoc xi.tb X.K Xs M1 σ H1 l1 →
        Po ⟨X.K, Xs, W, xi, σ⟩ M1 H1 (fun is l' M' H' => ∀ p, partsD b1 b2 is = some p → R p.1 p.2 H') (evIs Γ es' l1) → tl σ H1 fun lo H2 => th σ H2 fun hi H3 => R lo hi H3) →
      tSl (RSl X.K) ta tl th σ H Q := by
  obtain ⟨t, ht, q⟩ := ha.ex
  refine ⟨t, ht, fun Xs σ H l M Q tl th r g parts => ?_⟩
  have e0 : evX Γ (.slc a' b1 b2 es') l = (evA1 Γ a' l).bind fun r => (evIs Γ es' r.2).bind fun r1 => match resL r1.2 [r.1], partsD b1 b2 r1.1 with
    | some [d], some p => (match slD d p with
      | some s => .ok (s, r1.2)
      | none => .bad)
    | _, _ => .bad := by
    rw [evX.eq_def]
    dsimp only
    rw [evAs_one]
    cases evA1 Γ a' l <;> rfl
  rw [e0] at g
  refine q Xs σ H l M _ r (g.bind.imp fun x l1 M1 H1 st1 rl1 g1 v rv => ?_)
  refine parts M1 H1 l1 (fun lo hi H3 => RSl X.K v lo hi H3 Q) rl1 (g1.bind.imp fun is l2 M2 H2 st2 rl2 g2 p ep => ?_)
  rw [ep] at g2
  cases e1 : res l2 x with
  | none => 
    have : resL l2 [x] = none := by simp only [resL, e1]
    dsimp only at g2
    rw [this] at g2
    exact g2.elim
  | some d =>
    have e2 : resL l2 [x] = some [d] := by simp only [resL, e1]
    dsimp only at g2
    rw [e2] at g2
    dsimp only at g2
    cases e3 : slD d p with
    | none => rw [e3] at g2; exact g2.elim
    | some z =>
      rw [e3] at g2
      refine ⟨Fb Xs M2, d, z, rl2.tr (C := ⟨X.K, Xs, W, xi, σ⟩), RepA.pk (C := ⟨X.K, Xs, W, xi, σ⟩) rl2 (rv.step st2) e1, e3, fin_of (C := ⟨X.K, Xs, W, xi, σ⟩) rl2 g2 fun h => ?_⟩
      subst h
      unfold slD at e3
      split at e3 <;> cases e3
theorem int_part {e : Expr} {e' : E} {es' : List E} (h : PD X W xi e (evX Γ e')) : ∃ t, PE X e t ∧ ∀ (Xs : Ad) (σ : L2.St) (H : Hp) (l : Loc) (M : Ad) (post : List Int → Loc → Ad → Hp → Prop) (Q : Option Int → Hp → Prop), RepLoc xi.tb X.K Xs M σ H l →
    Po ⟨X.K, Xs, W, xi, σ⟩ M H post (evIs Γ (e' :: es') l) →
    (∀ i l1 M1 H1, Step M H M1 H1 → RepLoc xi.tb X.K Xs M1 σ H1 l1 → Po ⟨X.K, Xs, W, xi, σ⟩ M1 H1 (fun is l' M' H' => post (i :: is) l' M' H') (evIs Γ es' l1) → Q (some i) H1) → tPart t σ H Q := by
  obtain ⟨t, ht, q⟩ := h.ex
  refine ⟨t, ht, fun Xs σ H l M post Q r g nx => ?_⟩
  rw [evIs_cons] at g
  refine q Xs σ H l M _ r (g.bind.imp fun s l1 M1 H1 st1 rl1 g1 v rv => ?_)
  dsimp only at g1
  split at g1
  · rename_i i
    refine ⟨i, rv.int', nx i l1 M1 H1 st1 rl1 (g1.bind.imp fun is l2 M2 H2 st2 rl2 g2 => g2 M2 H2 Step.refl rl2)⟩
  · exact g1.elim
theorem pd_sl00 {a : Expr} {a' : E} {p2 pos : Pos} (ha : PAD X W xi a (evA1 Γ a')) : PD X W xi (.Subscript a (.Slice none none none p2) pos) (evX Γ (.slc a' false false [])) := by
  obtain ⟨t, ht, q⟩ := slc_core (b1 := false) (b2 := false) (es' := []) ha
  refine ⟨_, pe_slice slp ht po_none po_none, fun Xs σ H l M Q r g => q Xs σ H l M Q _ _ r g fun M1 H1 l1 R r1 g1 => ?_⟩
  rw [evIs_nil] at g1
  exact g1 M1 H1 Step.refl r1 (none, none) rfl
theorem pd_sl10 {a lo : Expr} {a' lo' : E} {p2 pos : Pos} (ha : PAD X W xi a (evA1 Γ a')) (hl : PD X W xi lo (evX Γ lo')) : PD X W xi (.Subscript a (.Slice (some lo) none none p2) pos) (evX Γ (.slc a' true false [lo'])) := by
  obtain ⟨t, ht, q⟩ := slc_core (b1 := true) (b2 := false) (es' := [lo']) ha
  obtain ⟨u, hu, o⟩ := int_part (es' := []) hl
  refine ⟨_, pe_slice slp ht (po_some hu) po_none, fun Xs σ H l M Q r g => q Xs σ H l M Q _ _ r g fun M1 H1 l1 R r1 g1 => ?_⟩
  refine o Xs σ H1 l1 M1 _ _ r1 g1 fun i l2 M2 H2 st2 rl2 g2 => ?_
  rw [evIs_nil] at g2
  exact g2 M2 H2 Step.refl rl2 (some i, none) rfl
theorem pd_sl01 {a hi : Expr} {a' hi' : E} {p2 pos : Pos} (ha : PAD X W xi a (evA1 Γ a')) (hh : PD X W xi hi (evX Γ hi')) : PD X W xi (.Subscript a (.Slice none (some hi) none p2) pos) (evX Γ (.slc a' false true [hi'])) := by
  obtain ⟨t, ht, q⟩ := slc_core (b1 := false) (b2 := true) (es' := [hi']) ha
  obtain ⟨u, hu, o⟩ := int_part (es' := []) hh
  refine ⟨_, pe_slice slp ht po_none (po_some hu), fun Xs σ H l M Q r g => q Xs σ H l M Q _ _ r g fun M1 H1 l1 R r1 g1 => ?_⟩
  show tPart u σ H1 _
  refine o Xs σ H1 l1 M1 _ _ r1 g1 fun i l2 M2 H2 st2 rl2 g2 => ?_
  rw [evIs_nil] at g2
  exact g2 M2 H2 Step.refl rl2 (none, some i) rfl
theorem pd_sl11 {a lo hi : Expr} {a' lo' hi' : E} {p2 pos : Pos} (ha : PAD X W xi a (evA1 Γ a')) (hl : PD X W xi lo (evX Γ lo')) (hh : PD X W xi hi (evX Γ hi')) : PD X W xi (.Subscript a (.Slice (some lo) (some hi) none p2) pos) (evX Γ (.slc a' true true [lo', hi'])) := by
  obtain ⟨t, ht, q⟩ := slc_core (b1 := true) (b2 := true) (es' := [lo', hi']) ha
  obtain ⟨u, hu, o⟩ := int_part (es' := [hi']) hl
  obtain ⟨w, hw, z⟩ := int_part (es' := []) hh
  refine ⟨_, pe_slice slp ht (po_some hu) (po_some hw), fun Xs σ H l M Q r g => q Xs σ H l M Q _ _ r g fun M1 H1 l1 R r1 g1 => ?_⟩
  refine o Xs σ H1 l1 M1 _ _ r1 g1 fun i l2 M2 H2 st2 rl2 g2 => ?_
  refine z Xs σ H2 l2 M2 _ _ rl2 g2 fun j l3 M3 H3 st3 rl3 g3 => ?_
  rw [evIs_nil] at g3
  exact g3 M3 H3 Step.refl rl3 (some i, some j) rfl
end

/-! ## what is known where a body runs -/
structure Good (X : Cx) (T : TC) (Γ : Gam) (W : WX) (xi : XI) (k : Nat) : Prop where
  N : X.N = T.N
  sc : X.env.scope.names = T.names
  calm : X.calm = true
  rm : Room (k + T.gd) X.A
  tabs : T.gd = 0 ∨ (T.gd = 6 ∧ ∃ c P, X.env.code = .ref c ∧ GxR.TabB X.base X.mg c P ∧ xi.tb P)
  tk : Takes X W
  fn : ∀ x fi, T.fn x = some fi → Callee X xi k x fi.rf (Γ fi.ix) fi.sh
  cn : ∀ x d, T.cn x = some d → ∃ u v, X.mg x = some u ∧ RelV v u ∧ ∀ F H, Rep X.K F H v d
  bl : ∀ x ∈ T.bl, X.mg x = none
  nd : X.N.Nodup
  kind : X.env.scope.kind = .function
section
variable {X : Cx} {T : TC} {W : WX} {xi : XI} {Γ : Gam} {k : Nat}
theorem Good.room (G : Good X T Γ W xi k) : Room k X.A := G.rm.mono (Nat.le_add_right _ _)
theorem Good.vis (G : Good X T Γ W xi k) {x : Str} (h : visB T x = true) : Vis X.env.scope x := by
  unfold visB at h
  unfold Vis
  rw [G.sc]
  split at h <;> first | exact .inl (by assumption) | exact .inr (.inl (by assumption)) | exact .inr (.inr (by assumption)) | cases h
theorem Good.gl (G : Good X T Γ W xi k) {x : Str} (h : glB T x = true) : Gl X x := by
  unfold glB at h
  show X.env.scope.names.lookup x = _
  rw [G.sc]
  split at h <;> first | assumption | cases h
theorem okName_d {x : Str} (h : okName x = true) : (x == ("__debug__" : Str)) = false ∧ (x == ("__classdict__" : Str)) = false := by
  unfold okName at h
  simp only [Bool.and_eq_true, Bool.not_eq_true'] at h
  exact h
theorem idx_get {N : List Str} {x : Str} {i : Nat} (h : N.idxOf? x = some i) : N[i]? = some x := by
  unfold List.idxOf? at h
  have := List.findIdx?_eq_some_iff_getElem.mp h
  obtain ⟨h1, h2, _⟩ := this
  rw [List.getElem?_eq_getElem h1]
  simpa using h2
theorem opP_ok {op : Operator} {p : Prim} (h : opP op = some p) : OpR X (binaryOp op) (RB X.K p) := by
  cases op <;> cases h
  · exact opp_add
  · exact opp_sub
  · exact opp_mul
  · exact opp_mod
  · exact opp_pow
  · exact opp_fdiv
theorem cmpP_ok {op : CmpOp} {p : Prim} (hu : X.A.units + 65 < cLine) (h : cmpP op = some p) : OpR X (compareOp op) (RB X.K p) := by
  cases op <;> cases h
  · exact opp_eq (by omega)
  · exact opp_ne (by omega)
  · exact opp_lt
  · exact opp_le
  · exact opp_gt
  · exact opp_ge
  · exact opp_is
  · exact opp_isnot
  · exact opp_in hu
  · exact opp_notin hu
theorem cmpP_bl {op : CmpOp} {p : Prim} (h : cmpP op = some p) : ∀ ds s, primD p ds = some s → ∃ b, s = .val (.bl b) := by
  intro ds s hs
  cases op <;> cases h <;> (unfold primD at hs; split at hs <;> first | contradiction | skip) <;> (try (split at hs)) <;> first | contradiction | (cases hs; exact ⟨_, rfl⟩)
end
end DL

set_option Elab.async false
set_option linter.all false
set_option maxRecDepth 100000
set_option maxHeartbeats 4000000
namespace DL
open PySem PySem.Spec PyProof.Rows L2 PySem.W

/-! ## sorted(..) of what can be collected -/
section
variable {prog : Program} {w : World} {A : Around} {E : Value → Shared → Prop} {s : Shared}
/-- what the collected values must be -/
def SortIn (A : Around) (Q : Value → Shared → Prop) (vs : List Value) (s1 : Shared) : Prop := ∃ (bs : List D) (R : Value → D → Prop), bs.length ≤ sizeLine ∧ EachIs R vs bs ∧ EachIs (fun v b => ∃ as, Reads s1.heap v (toPy b) as) vs bs ∧ AllAlike (bs.map toPy) ∧ Sortable (bs.map toPy) ∧
  (∀ b, b ∈ bs → A.units + 2 + (toPy b).depth < cLine) ∧ ∀ (out : List Value) (h' : Heap) (S : Addr), out.length = bs.length → EachIs R out (srtD bs) → (∀ b o, s1.heap.get? b = some o → h'.get? b = some o) → s1.heap.objs.size ≤ S → (∃ n, h'.get? S = some (seqObj "list" out.toArray n)) → Q (.ref S) { s1 with heap := h' }
theorem sorted_coll {u : Value} {Q : Value → Shared → Prop} (hcol : wpAny (model prog w) A.in1 (collect u) (SortIn A Q) E s) : wpAny (model prog w) A (call (.builtin "sorted") [u]) Q E s := by
  refine Calls.call_function_entry kind_sorted plain_sorted entry_sorted (args_sorted1 _) ?_
  unfold Builtin.«sorted»
  refine wpAny_bind (m := checkCount "sorted" 1 1 _) (wpAny_pure ?_)
  refine wpAny_bind (wpAny_mono hcol (fun vs s1 hz => ?_) fun _ _ e => e)
  obtain ⟨bs, R, hL, e, er, hal, hk, hu, fin⟩ := hz
  have hL' : vs.length ≤ sizeLine := by rw [e.length]; exact hL
  refine wpAny_bind (wpAny_newList ?_ hL')
  have ho : (s1.heap.push (seqObj "list" vs.toArray 0)).get? s1.heap.objs.size = some (seqObj "list" vs.toArray 0) := Heap.get?_push_size _ rfl
  have old : ∀ b o, s1.heap.get? b = some o → (s1.heap.push (seqObj "list" vs.toArray 0)).get? b = some o := fun b o q => Heap.get?_push_of_some _ q
  have old2 : ∀ b o, s1.heap.get? b = some o → (sortingHeap (s1.heap.push (seqObj "list" vs.toArray 0)) s1.heap.objs.size vs).get? b = some o := fun b o q =>
    sortingHeap_old (Nat.ne_of_lt (Heap.lt_size q)) (old b o q)
  have er' : EachIs (fun v b => ∃ as, Reads (sortingHeap (s1.heap.push (seqObj "list" vs.toArray 0)) s1.heap.objs.size vs) v (toPy b) as) vs bs := er.mono fun _ _ ⟨as, r⟩ => ⟨as, PyProof.Rows.Reads.keeps old2 r⟩
  have S := SortsAt.data (prog := prog) (w := w) (A := A.in1.in1) (s := { s1 with heap := sortingHeap (s1.heap.push (seqObj "list" vs.toArray 0)) s1.heap.objs.size vs }) (each_map (R := fun v d => ∃ as, Reads (sortingHeap (s1.heap.push (seqObj "list" vs.toArray 0)) s1.heap.objs.size vs) v d as) toPy er') hal hk (bound_map hu)
  show wpAny _ _ _ _ _ { s1 with heap := s1.heap.push (seqObj "list" vs.toArray 0) }
  refine wpAny_bind (wpAny_holding (wpAny_call_entry slot_list_sort ⟨_, ho, rfl⟩ entry_list_sort (list_sort_vals (s := { s1 with heap := s1.heap.push (seqObj "list" vs.toArray 0) }) ho S hL' ⟨_, rfl, ?_⟩) (args_list_sort _)))
  refine wpAny_pure ⟨_, rfl, ?_⟩
  exact fin _ _ _ (by rw [sortVals_length false rfl]; exact e.length) (sortVals_data false e er' hal) (fun b o q => by
    rw [sortedHeap_old (Nat.ne_of_lt (Heap.lt_size q)) (Heap.lt_size (old b o q))]; exact old b o q) (Nat.le_refl _) (sortedHeap_at ho)
end
section
variable {prog : Program} {w : World} {A : Around} {E : Value → Shared → Prop} {s : Shared}
theorem collect_tup {l : Addr} {vs : List Value} {Q : List Value → Shared → Prop} (hl : s.heap.IsTuple l vs.toArray)
    (h : Q vs { s with heap := (s.heap.push (seqObj "list" #[] 0)).update s.heap.objs.size (Obj.mapSeq (· ++ vs.toArray)) }) (hsz : vs.length ≤ sizeLine) :
    wpAny (model prog w) A (collect (.ref l)) Q E s := by
  obtain ⟨o, ho, hc, n, hd⟩ := id hl
  unfold collect
  refine wpAny_bind (wpAny_runValue (codeAny_builtin entry_proto_collect' ?_))
  show wpAny _ _ (do again (.builtin "list.__iadd__" ⟨[← newList [], .ref l], []⟩)) _ _ s
  refine wpAny_bind (wpAny_newList (wpAny_pure ⟨Code.quiet_builtin _ (by decide +kernel), codeAny_builtin entry_list_iadd' ?_⟩))
  show wpAny _ _ (Builtin.List.listExtendWith (.ref s.heap.objs.size) (.ref l) (.ref s.heap.objs.size)) _ _ { s with heap := s.heap.push (seqObj "list" #[] 0) }
  unfold Builtin.List.listExtendWith
  have ho' : (s.heap.push (seqObj "list" #[] 0)).get? l = some o := Heap.get?_push_of_some _ ho
  refine wpAny_bind (wpAny_typeOf (T := "tuple") ⟨o, ho', hc⟩ ?_)
  have ht : (Value.type "tuple" == Value.type "tuple") = true := by rfl
  rw [if_pos (by rw [ht]; simp)]
  refine wpAny_bind (listItems_at ho' hd ?_)
  refine wpAny_bind (listItems_at (xs := #[]) (n := 0) (Heap.get?_push_size _ rfl) rfl ?_)
  rw [if_neg (by simp)]
  refine wpAny_bind (listUpdate_at (xs := #[]) (n := 0) (Heap.get?_push_size _ rfl) rfl ?_ (Nat.zero_le _) (by show (#[] ++ vs.toArray).size ≤ sizeLine + 1; simp only [Array.size_append, List.size_toArray, List.length_nil]; omega))
  refine wpAny_pure ?_
  show wpAny (model prog w) A (do
      let o ← load s.heap.objs.size
      match o.data with
      | .seq xs _ => pure xs.toList
      | _ => unsupported "internal:collect") Q E { s with heap := (s.heap.push (seqObj "list" #[] 0)).update s.heap.objs.size (Obj.mapSeq (· ++ vs.toArray)) }
  refine wpAny_bind (wpAny_load (get?_update_seq (Heap.get?_push_size _ rfl) _) ?_)
  show wpAny _ _ (pure ((#[] : Array Value) ++ vs.toArray).toList) Q E _
  rw [show ((#[] : Array Value) ++ vs.toArray).toList = vs by simp]
  exact wpAny_pure h
end
theorem srtOk_iff {xs : List D} (h : srtOk xs = true) : AllAlike (xs.map toPy) ∧ Sortable (xs.map toPy) ∧ ∀ d ∈ xs, (toPy d).depth ≤ 32 := by
  unfold srtOk at h
  simp only [Bool.and_eq_true, Bool.or_eq_true, List.all_eq_true, decide_eq_true_eq] at h
  obtain ⟨⟨h1, h2⟩, h3⟩ := h
  refine ⟨fun d hd e he => ?_, ?_, h3⟩
  · obtain ⟨a, ha, rfl⟩ := List.mem_map.mp hd
    obtain ⟨b, hb, rfl⟩ := List.mem_map.mp he
    unfold alikeD at h1
    simp only [List.all_eq_true] at h1
    exact h1 a ha b hb
  · rcases h2 with h2 | h2
    · refine .inl fun d hd => ?_
      obtain ⟨a, ha, rfl⟩ := List.mem_map.mp hd
      have := h2 a ha
      unfold tupSrt at this
      split at this
      · rename_i x r
        exact ⟨toPy x, toPyL r, by rw [toPy, toPyL]⟩
      · cases this
    · refine .inr fun d hd => ?_
      obtain ⟨a, ha, rfl⟩ := List.mem_map.mp hd
      have := h2 a ha
      cases a <;> simp [othSrt, toPy] at this ⊢
theorem each_of {X : Cx} {F : Ad} {H : Hp} : ∀ {ds : List D} {xs : List V} {us : List Value}, Vals xs us → RepL X.K F H xs ds → EachIs (fun u d => ∃ x, RelV x u ∧ Rep X.K F H x d) us ds
  | [], _, us, r, h => by
    rw [RepL] at h; subst h
    cases r
    exact .nil
  | d :: ds, _, us, r, h => by
    rw [RepL] at h
    obtain ⟨v, vs, rfl, h1, h2⟩ := h
    cases r with
    | cons r1 r2 => exact .cons ⟨v, r1, h1⟩ (each_of r2 h2)
theorem of_each {X : Cx} {F : Ad} {H : Hp} : ∀ {us : List Value} {ds : List D}, EachIs (fun u d => ∃ x, RelV x u ∧ Rep X.K F H x d) us ds → ∃ xs, Vals xs us ∧ RepL X.K F H xs ds
  | _, _, .nil => ⟨[], .nil, RepL.nil⟩
  | _, _, .cons ⟨x, r, h⟩ t => by
    obtain ⟨xs, q1, q2⟩ := of_each t
    exact ⟨x :: xs, .cons r q1, RepL.cons h q2⟩
theorem reads_of {X : Cx} {pins : List (Addr × Obj)} {σ : L2.St} {H : Hp} {s : Shared} {F : Ad} (I : Inv X pins σ H s) {us : List Value} {ds : List D} (h : EachIs (fun u d => ∃ x, RelV x u ∧ Rep X.K F H x d) us ds) : EachIs (fun v b => ∃ as, Reads s.heap v (toPy b) as) us ds :=
  h.mono fun u d ⟨x, r, q⟩ => Dp.reads I (toPy d) x u (Rep.dp d x q) r
theorem srtD_length (xs : List D) : (srtD xs).length = xs.length := by unfold srtD; rw [List.length_mergeSort]
section
variable {X : Cx}
/-- in the hand layer's terms -/
theorem sort_in {pins : List (Addr × Obj)} {σ : L2.St} {H : Hp} {s : Shared} {F : Ad} {A : Around} {Q : VK} {ds : List D} {xs : List V} {us : List Value} (I : Inv X pins σ H s) (hu : A.units + 64 < cLine) (r : Vals xs us) (h : RepL X.K F H xs ds) (hz : xs.length ≤ sizeLine) (ok : srtOk ds = true)
    (q : ∀ p ys, H p = none → RepL X.K F H ys (srtD ds) → Q (.ref p) (upd H p (.lst ys))) : SortIn A (EP X pins σ Q) us s := by
  obtain ⟨h1, h2, h3⟩ := srtOk_iff ok
  have e := each_of r h
  refine ⟨ds, _, by rw [← h.length]; exact hz, e, reads_of I e, h1, h2, fun b hb => by have := h3 b hb; omega, fun out h' S hl he hk hS ho => ?_⟩
  obtain ⟨ys, q1, q2⟩ := of_each he
  obtain ⟨n, ho⟩ := ho
  exact ⟨.ref S, upd H S (.lst ys), I.laid (t' := s.toks) hk hS ⟨by rw [q2.length, srtD_length, ← h.length]; exact hz, out, n, q1, ho⟩, rfl, q _ _ (I.hok.fresh hS) q2⟩
theorem cp_srt (hu : X.A.units + 64 < cLine) : CallR X (.builtin "sorted") (RN X.K .srt) := by
  intro pins s σ H vs us Q I rx h
  obtain ⟨F, ds, z, tr, hd, hp, q⟩ := h
  match ds, vs, hd with
  | [d], [v], hd =>
    cases rx with
    | cons r rr =>
      cases rr
      cases d <;> simp only [primD] at hp <;> first | cases hp | skip
      · split at hp <;> cases hp
        rename_i hz
        obtain ⟨a, ws, rfl, h1, h2⟩ := Pk.tup' hd.1
        cases r
        obtain ⟨its, rv, pl, hz2⟩ := I.tuple h1.sq
        refine sorted_coll (collect_tup pl ?_ (by rw [← rv.length]; exact hz2))
        have I2 : Inv X pins σ H { s with heap := (s.heap.push (seqObj "list" #[] 0)).update s.heap.objs.size (Obj.mapSeq (· ++ its.toArray)) } := I.kept (t' := s.toks) fun b o e => by
          rw [Heap.get?_update_ne _ _ _ _ (Nat.ne_of_lt (Heap.lt_size e))]; exact Heap.get?_push_of_some _ e
        exact sort_in I2 hu rv h2 hz2 hz fun p ys n r => q p ys n r
      · split at hp <;> cases hp
        rename_i hz
        obtain ⟨a, ws, rfl, h1, h2⟩ := hd.1
        cases r
        obtain ⟨its, rv, pl, hz2⟩ := I.list h1
        refine sorted_coll (collect_list pl.isList ?_ (by rw [← rv.length]; exact hz2))
        have I2 : Inv X pins σ H { s with heap := (s.heap.push (seqObj "list" #[] 0)).update s.heap.objs.size (Obj.mapSeq (· ++ its.toArray)) } := I.kept (t' := s.toks) fun b o e => by
          rw [Heap.get?_update_ne _ _ _ _ (Nat.ne_of_lt (Heap.lt_size e))]; exact Heap.get?_push_of_some _ e
        exact sort_in I2 hu rv h2 hz2 hz fun p ys n r => q p ys n r
  | [], vs, hd => cases vs <;> (unfold primD at hp; simp at hp)
  | _ :: _ :: _, vs, hd => unfold primD at hp; simp at hp
  | [_], [], hd => exact hd.elim
  | [_], _ :: _ :: _, hd => exact hd.2.elim
end
end DL

set_option Elab.async false
set_option linter.all false
set_option maxRecDepth 100000
set_option maxHeartbeats 8000000
namespace DL
open PySem PySem.Spec PyProof.Rows L2

/-- all that is shown of a translated expression -/
structure Snd (X : Cx) (W : WX) (xi : XI) (Γ : Gam) (e : Expr) (e' : E) : Prop where
  pd : PD X W xi e (evX Γ e')
  ptd : PTD X W xi e (evT Γ e')
  var : ∀ i, e' = .var i → ∃ t, PE X e t ∧ t = tVar i
  pwd : ∀ op vs pos, e = .BoolOp op vs pos → PWD X W xi e (evT Γ e')
section
variable {X : Cx} {T : TC} {W : WX} {xi : XI} {Γ : Gam} {k : Nat} {e : Expr} {e' : E}
theorem Snd.pad (h : Snd X W xi Γ e e') : PAD X W xi e (evA1 Γ e') := h.pd.pad h.var
theorem ptd_bad {d : Loc → R (Bool × Loc)} (h : ∀ l, d l = .bad) : PTD X W xi e d := ⟨fun _ _ _ => False, ⟨fun _ _ _ _ _ _ h => h.elim⟩, fun Xs σ H l M Q r g => by rw [h] at g; exact g.elim⟩
theorem Snd.plain (h : PD X W xi e (evX Γ e')) (hv : ∀ i, e' = .var i → ∃ t, PE X e t ∧ t = tVar i) (hp : plainT e' = true) (he : ∀ whole, isTrue e X.env whole = (do let v ← whole; standAt e.pos; holding [v] (truthy v))) (hb : ∀ op vs pos, e ≠ .BoolOp op vs pos) : Snd X W xi Γ e e' :=
  ⟨h, ptd_plain (h.pad hv) hp he, hv, fun op vs pos z => absurd z (hb op vs pos)⟩
theorem Snd.bad (h : PD X W xi e (evX Γ e')) (hv : ∀ i, e' ≠ .var i) (hp : ∀ l, evT Γ e' l = .bad) (hb : ∀ op vs pos, e ≠ .BoolOp op vs pos) : Snd X W xi Γ e e' :=
  ⟨h, ptd_bad hp, fun i z => absurd z (hv i), fun op vs pos z => absurd z (hb op vs pos)⟩
theorem trL_ok {tr : Expr → Option E} (ih : ∀ e e', tr e = some e' → Snd X W xi Γ e e') : ∀ {es : List Expr} {es' : List E}, trL tr es = some es' → PLA X W xi es (evAs Γ es') ∧ PLD X W xi es (evDs Γ es') ∧ es'.length = es.length ∧ es.all notStar = true
  | [], es', h => by cases h; exact ⟨pla_nil, pld_nil, rfl, rfl⟩
  | e :: es, es', h => by
    unfold trL at h
    cases e1 : tr e with
    | none => rw [e1] at h; cases h
    | some a =>
      cases e2 : trL tr es with
      | none => rw [e1, e2] at h; cases h
      | some r =>
        rw [e1, e2] at h
        dsimp only at h
        split at h
        · rename_i hs
          cases h
          obtain ⟨h1, h2, h3, h4⟩ := trL_ok ih e2
          have s := ih e a e1
          exact ⟨pla_cons s.pad h1 (starEach_cons hs), pld_cons s.pd h2 (starEach_cons hs), by rw [List.length_cons, List.length_cons, h3], by rw [List.all_cons, hs, h4]; rfl⟩
        · cases h
theorem trK_ok {tr : Expr → Option E} (ih : ∀ e e', tr e = some e' → Snd X W xi Γ e e') : ∀ {ks : List Keyword} {es' : List E}, trK tr ks = some es' → PKA X W xi ks (evAs Γ es') ∧ es'.length = ks.length
  | [], es', h => by cases h; exact ⟨pka_nil, rfl⟩
  | ⟨n, e, p⟩ :: es, es', h => by
    unfold trK at h
    cases e1 : tr e with
    | none => rw [e1] at h; cases h
    | some a =>
      cases e2 : trK tr es with
      | none => rw [e1, e2] at h; cases h
      | some r =>
        rw [e1, e2] at h
        cases h
        obtain ⟨h1, h3⟩ := trK_ok ih e2
        exact ⟨pka_cons (ih e a e1).pad h1, by rw [List.length_cons, List.length_cons, h3]⟩
theorem plainIx_ok {b : Expr} (h : plainIx b = true) : PlainIx b := by
  intro o i
  cases b <;> first | rfl | cases h
theorem blt_of (G : Good X T Γ W xi k) {x : Str} (h : isBl T x = true) : Gl X x ∧ X.mg x = none := by
  unfold isBl at h
  rw [Bool.and_eq_true] at h
  exact ⟨G.gl h.1, G.bl x (by simpa using h.2)⟩
theorem kw_len {ks : List Keyword} (h : ks.all (fun k => k.arg.isSome) = true) : (ks.filterMap (·.arg)).length = ks.length := by
  induction ks with
  | nil => rfl
  | cons a ks ih =>
    rw [List.all_cons, Bool.and_eq_true] at h
    rw [List.filterMap_cons]
    cases e : a.arg with
    | none => rw [e] at h; cases h.1
    | some x => dsimp only; rw [List.length_cons, List.length_cons, ih h.2]
theorem pd_bltG {es : List Expr} {dd : Loc → R (Sl × Loc)} {p : Prim} {x : Str} {px pos : Pos} (G : Good X T Γ W xi k) (hb : isBl T x = true) (ho : okName x = true) (hn : (x == ("__name__" : Str)) = false) (hp : blP x es.length = some p)
    (h : ∃ t, PA X es t ∧ ∀ (Xs : Ad) (σ : L2.St) (H : Hp) (l : Loc) (M : Ad) (Q : VK), RepLoc xi.tb X.K Xs M σ H l →
      Po ⟨X.K, Xs, W, xi, σ⟩ M H (fun s l' M' H' => ∀ v, RepR X.K Xs M' σ l' H' v s → Q v H') (dd l) → tCB (RN X.K p) t σ H Q) (hs : es.all notStar = true) :
    PD X W xi (.Call (.Name x px) es [] pos) dd := by
  obtain ⟨hg, hm⟩ := blt_of G hb
  obtain ⟨t, ht, q⟩ := h
  have hd := (okName_d ho).1
  have hne : x ≠ ("__name__" : Str) := by simpa using hn
  cases es with
  | nil =>
    unfold blP at hp
    simp at hp
  | cons e es =>
    have hs' := hs
    rw [List.all_cons, Bool.and_eq_true] at hs'
    have se := starEach_cons (es := es) (env := X.env) hs'.1
    have sa := starEach_any (env := X.env) (pos := pos) hs'.2
    unfold blP at hp
    split at hp
    · rename_i hx; cases hp
      rw [Bool.and_eq_true] at hx
      have hx1 : x = ("abs" : Str) := by simpa using hx.1
      subst hx1
      exact ⟨_, pe_callB cp_abs hg hm (by decide +kernel) ht hne hd se sa, q⟩
    split at hp
    · rename_i hx; cases hp
      rw [Bool.and_eq_true] at hx
      have hx1 : x = ("len" : Str) := by simpa using hx.1
      subst hx1
      exact ⟨_, pe_callB cp_len hg hm (by decide +kernel) ht hne hd se sa, q⟩
    split at hp
    · rename_i hx; cases hp
      rw [Bool.and_eq_true] at hx
      have hx1 : x = ("int" : Str) := by simpa using hx.1
      subst hx1
      exact ⟨_, pe_callTy cp_int hg hm (by decide +kernel) ht hne hd se sa, q⟩
    split at hp
    · rename_i hx; cases hp
      rw [Bool.and_eq_true] at hx
      have hx1 : x = ("list" : Str) := by simpa using hx.1
      subst hx1
      exact ⟨_, pe_callTy cp_list hg hm (by decide +kernel) ht hne hd se sa, q⟩
    split at hp
    · rename_i hx; cases hp
      rw [Bool.and_eq_true] at hx
      have hx1 : x = ("tuple" : Str) := by simpa using hx.1
      subst hx1
      exact ⟨_, pe_callTy cp_tuple hg hm (by decide +kernel) ht hne hd se sa, q⟩
    split at hp
    · rename_i hx; cases hp
      rw [Bool.and_eq_true] at hx
      have hx1 : x = ("min" : Str) := by simpa using hx.1
      subst hx1
      exact ⟨_, pe_callB (cp_min G.calm) hg hm (by decide +kernel) ht hne hd se sa, q⟩
    split at hp
    · rename_i hx; cases hp
      rw [Bool.and_eq_true] at hx
      have hx1 : x = ("max" : Str) := by simpa using hx.1
      subst hx1
      exact ⟨_, pe_callB (cp_max G.calm) hg hm (by decide +kernel) ht hne hd se sa, q⟩
    split at hp
    · rename_i hx; cases hp
      rw [Bool.and_eq_true] at hx
      have hx1 : x = ("min" : Str) := by simpa using hx.1
      subst hx1
      exact ⟨_, pe_callB (cp_min G.calm) hg hm (by decide +kernel) ht hne hd se sa, q⟩
    split at hp
    · rename_i hx; cases hp
      rw [Bool.and_eq_true] at hx
      have hx1 : x = ("max" : Str) := by simpa using hx.1
      subst hx1
      exact ⟨_, pe_callB (cp_max G.calm) hg hm (by decide +kernel) ht hne hd se sa, q⟩
    split at hp
    · rename_i hx; cases hp
      rw [Bool.and_eq_true] at hx
      have hx1 : x = ("sum" : Str) := by simpa using hx.1
      subst hx1
      exact ⟨_, pe_callB (cp_sum G.calm) hg hm (by decide +kernel) ht hne hd se sa, q⟩
    split at hp
    · rename_i hx; cases hp
      rw [Bool.and_eq_true] at hx
      have hx1 : x = ("sorted" : Str) := by simpa using hx.1
      subst hx1
      exact ⟨_, pe_callB (cp_srt G.room.units) hg hm (by decide +kernel) ht hne hd se sa, q⟩
    · cases hp
theorem pd_blt {es : List Expr} {es' : List E} {p : Prim} {x : Str} {px pos : Pos} (G : Good X T Γ W xi k) (hb : isBl T x = true) (ho : okName x = true) (hn : (x == ("__name__" : Str)) = false) (hp : blP x es.length = some p) (h : PLA X W xi es (evAs Γ es')) (hs : es.all notStar = true) :
    PD X W xi (.Call (.Name x px) es [] pos) (evX Γ (.prim p es')) := pd_bltG G hb ho hn hp (many (p := p) h) hs
theorem isTy_ok {x : Str} {j : Nat} (h : isTy x = some j) : bootBuiltins x = some (.type (istN j)) ∧ x ≠ ("__name__" : Str) ∧ (x == ("__debug__" : Str)) = false := by
  unfold isTy at h
  split at h
  · rename_i hx; cases h
    have hx1 : x = ("int" : Str) := by simpa using hx
    subst hx1; exact ⟨by decide +kernel, by decide, by decide⟩
  split at h
  · rename_i hx; cases h
    have hx1 : x = ("bool" : Str) := by simpa using hx
    subst hx1; exact ⟨by decide +kernel, by decide, by decide⟩
  split at h
  · rename_i hx; cases h
    have hx1 : x = ("str" : Str) := by simpa using hx
    subst hx1; exact ⟨by decide +kernel, by decide, by decide⟩
  split at h
  · rename_i hx; cases h
    have hx1 : x = ("tuple" : Str) := by simpa using hx
    subst hx1; exact ⟨by decide +kernel, by decide, by decide⟩
  split at h
  · rename_i hx; cases h
    have hx1 : x = ("list" : Str) := by simpa using hx
    subst hx1; exact ⟨by decide +kernel, by decide, by decide⟩
  · cases h
theorem pd_ist {a : Expr} {a' : E} {t : Str} {j : Nat} {px pt pos : Pos} (G : Good X T Γ W xi k) (hb : isBl T ("isinstance" : Str) = true) (ht : isBl T t = true) (hj : isTy t = some j) (h : PAD X W xi a (evA1 Γ a')) (hs : notStar a = true) :
    PD X W xi (.Call (.Name "isinstance" px) [a, .Name t pt] [] pos) (evX Γ (.prim (.ist j) [a'])) := by
  obtain ⟨hg, hm⟩ := blt_of G hb
  obtain ⟨hg2, hm2⟩ := blt_of G ht
  obtain ⟨ta, hta, q⟩ := sole (p := .ist j) h
  obtain ⟨b1, b2, b3⟩ := isTy_ok hj
  have hp : PA X [a, .Name t pt] (tCons ta (tCons (tC (.ty (istN j))) tNil)) := pa_cons hta (pa_cons (pe_bltn hg2 hm2 b1 rfl b2 b3) pa_nil) (starEach_cons hs)
  refine ⟨_, pe_callB (cp_isi (T := j)) hg hm (by decide +kernel) hp (by decide) (by decide) (starEach_cons hs), fun Xs σ H l M Q r g => ?_⟩
  have := q Xs σ H l M Q r g
  show ta σ H _
  obtain ⟨F, hF⟩ : ∃ F : VK, F = fun x H1 => ∃ (F : Ad) (d : D) (s : Sl), Trk F H1 ∧ Pk X.K F H1 x d ∧ primD (.ist j) [d] = some s ∧ FinP X.K F H1 Q s := ⟨_, rfl⟩
  have e : (fun x H1 => ∃ (F : Ad) (d : D) (s : Sl), Trk F H1 ∧ Pk X.K F H1 x d ∧ primD (.ist j) [d] = some s ∧ FinP X.K F H1 Q s) = (fun x H1 => RIs X.K j [x, .ty (istN j)] H1 Q) := by
    funext x H1
    apply propext
    constructor
    · rintro ⟨F, d, s, h1, h2, h3, h4⟩
      exact ⟨F, d, x, s, rfl, h1, h2, h3, h4⟩
    · rintro ⟨F, d, v, s, e, h1, h2, h3, h4⟩
      cases e
      exact ⟨F, d, s, h1, h2, h3, h4⟩
  rw [e] at this
  exact this
end
end DL

set_option Elab.async false
set_option linter.all false
set_option maxRecDepth 100000
set_option maxHeartbeats 4000000
namespace DL
open PySem PySem.Spec PyProof.Rows L2

/-! ## statements: what is wanted -/
structure Cs where
  K : PySem.W.Frag
  Xs : Ad
  W : WX
  xi : XI
  pr : List Nat
abbrev Cs.cf (C : Cs) (σ : L2.St) : Cf := ⟨C.K, C.Xs, C.W, C.xi, σ⟩
def Keep (pr : List Nat) (σ σ' : L2.St) : Prop := ∀ i ∈ pr, σ'[i]? = σ[i]?
theorem Keep.refl {pr : List Nat} {σ : L2.St} : Keep pr σ σ := fun _ _ => rfl
theorem Keep.trans {pr : List Nat} {σ σ1 σ2 : L2.St} (a : Keep pr σ σ1) (b : Keep pr σ1 σ2) : Keep pr σ σ2 := fun i h => (b i h).trans (a i h)
def PoS (C : Cs) (σ : L2.St) (M : Ad) (H : Hp) (D : Ends) : R (Fl × Loc) → Prop
  | .ok (.nx, l') => ∀ σ' M' H', Step M H M' H' → RepLoc C.xi.tb C.K C.Xs M' σ' H' l' → Keep C.pr σ σ' → D.nx σ' H'
  | .ok (.brk, l') => ∀ σ' M' H', Step M H M' H' → RepLoc C.xi.tb C.K C.Xs M' σ' H' l' → Keep C.pr σ σ' → D.bk σ' H'
  | .ok (.cnt, l') => ∀ σ' M' H', Step M H M' H' → RepLoc C.xi.tb C.K C.Xs M' σ' H' l' → Keep C.pr σ σ' → D.ct σ' H'
  | .ok (.ret s, l') => ∀ v σ' M' H', Step M H M' H' → RepLoc C.xi.tb C.K C.Xs M' σ' H' l' → Keep C.pr σ σ' → RepR C.K C.Xs M' σ' l' H' v s → D.rt v H'
  | .exc x l' => ∀ cls d σ' M' H', Step M H M' H' → RepLoc C.xi.tb C.K C.Xs M' σ' H' l' → Keep C.pr σ σ' → C.xi x cls d H' → C.W cls d σ' H'
  | .bad => False
section
variable {α : Type} {C : Cs} {σ σ' : L2.St} {M M' : Ad} {H H' : Hp} {D D' : Ends} {r : R (Fl × Loc)}
theorem PoS.shift (h : PoS C σ M H D r) (s : Step M H M' H') (k : Keep C.pr σ σ') : PoS C σ' M' H' D r := by
  match r, h with
  | .ok (.nx, l), h => exact fun σ2 M2 H2 s2 r2 k2 => h σ2 M2 H2 (s.trans s2) r2 (k.trans k2)
  | .ok (.brk, l), h => exact fun σ2 M2 H2 s2 r2 k2 => h σ2 M2 H2 (s.trans s2) r2 (k.trans k2)
  | .ok (.cnt, l), h => exact fun σ2 M2 H2 s2 r2 k2 => h σ2 M2 H2 (s.trans s2) r2 (k.trans k2)
  | .ok (.ret z, l), h => exact fun v σ2 M2 H2 s2 r2 k2 => h v σ2 M2 H2 (s.trans s2) r2 (k.trans k2)
  | .exc x l, h => exact fun c d σ2 M2 H2 s2 r2 k2 => h c d σ2 M2 H2 (s.trans s2) r2 (k.trans k2)
  | .bad, h => exact h
/-- an expression ahead of a statement -/
theorem PoS.bind {r : R (α × Loc)} {f : α × Loc → R (Fl × Loc)} (h : PoS C σ M H D (r.bind f)) : Po (C.cf σ) M H (fun a l' M' H' => PoS C σ M' H' D (f (a, l'))) r := by
  cases r with
  | ok a => exact fun M2 H2 s2 rl => PoS.shift (show PoS C σ M H D (f a) from h) s2 Keep.refl
  | exc x l => exact fun cls d M2 H2 s2 rl hx => h cls d σ M2 H2 s2 rl Keep.refl hx
  | bad => exact h
end
structure PSD (X : Cx) (W : WX) (xi : XI) (pr : List Nat) (st : Stmt) (d : Loc → R (Fl × Loc)) : Prop where
  ex : ∃ t : TS, PS X st t ∧ ∀ (Xs : Ad) (σ : L2.St) (H : Hp) (l : Loc) (M : Ad) (D : Ends), RepLoc xi.tb X.K Xs M σ H l → PoS ⟨X.K, Xs, W, xi, pr⟩ σ M H D (d l) → t D σ H
structure PBD (X : Cx) (W : WX) (xi : XI) (pr : List Nat) (st : List Stmt) (d : Loc → R (Fl × Loc)) : Prop where
  ex : ∃ t : TS, PSs X st t ∧ ∀ (Xs : Ad) (σ : L2.St) (H : Hp) (l : Loc) (M : Ad) (D : Ends), RepLoc xi.tb X.K Xs M σ H l → PoS ⟨X.K, Xs, W, xi, pr⟩ σ M H D (d l) → t D σ H
structure PGD (X : Cx) (pr : List Nat) (tg : Expr) (t' : Tg) : Prop where
  ex : ∃ t : TG, PG X tg t ∧ ∀ (tb Xs : Ad) (σ : L2.St) (H : Hp) (l l1 : Loc) (M : Ad) (v : V) (d : D) (Q : L2.St → Hp → Prop), RepLoc tb X.K Xs M σ H l → Rep X.K (Fb Xs M) H v d → bindT t' d l = some l1 →
    (∀ σ', RepLoc tb X.K Xs M σ' H l1 → Keep pr σ σ' → Q σ' H) → t v σ H Q
structure PGsD (X : Cx) (pr : List Nat) (ts : List Expr) (ts' : List Tg) : Prop where
  ex : ∃ t : TGs, PGs X ts t ∧ ∀ (tb Xs : Ad) (σ : L2.St) (H : Hp) (l l1 : Loc) (M : Ad) (vs : List V) (ds : List D) (Q : L2.St → Hp → Prop), RepLoc tb X.K Xs M σ H l → RepL X.K (Fb Xs M) H vs ds → bindT.bindTs ts' ds l = some l1 →
    (∀ σ', RepLoc tb X.K Xs M σ' H l1 → Keep pr σ σ' → Q σ' H) → t vs σ H Q

theorem ownAt_some {l : Loc} {i : Nat} {ds : List D} (h : ownAt l i = some ds) : l[i]? = some (.own ds) := by
  unfold ownAt at h
  split at h
  · rename_i e; cases h; exact e
  · cases h
/-! ## slots stored -/
section
variable {K : PySem.W.Frag} {Xs M : Ad} {σ : L2.St} {H : Hp} {l : Loc}
/-- a list that slot i owns is changed -/
theorem RepLoc.putS (r : RepLoc tb K Xs M σ H l) {i : Nat} {s z : Sl} {v : V} {a : Addr} {ws : List V} (e : l[i]? = some s) (eσ : σ[i]? = some (some v)) (o : Ows H v s a)
    (h : RepS K Xs M (upd H a (.lst ws)) v z) (ho : ∀ b, Ows (upd H a (.lst ws)) v z b → ¬ Owd (l.set i .un) σ H b) : Step M H M (upd H a (.lst ws)) ∧ RepLoc tb K Xs M σ (upd H a (.lst ws)) (l.set i z) := by
  have hs : s ≠ .un := fun q => by subst q; exact o
  obtain ⟨v', h1, h2⟩ := r.slot i s e hs
  rw [eσ] at h1; cases h1
  obtain ⟨am, us, ae⟩ := h2.ows_M o
  have st : Step M H M (upd H a (.lst ws)) := Step.put am ae
  have hi : i < l.length := (List.getElem?_eq_some_iff.mp e).1
  refine ⟨st, ?_⟩
  have ne : ∀ b, Owd (l.set i .un) σ H b → b ≠ a := fun b q hb => by subst hb; exact r.only e eσ o q
  have r1 : RepLoc tb K Xs M σ (upd H a (.lst ws)) (l.set i .un) := by
    have r0 := r.unset i
    refine r0.same (fun b u n q t => st.ext b u (fun z => n (.inr z)) q t) (fun b z => .inl z) (fun b q => ⟨(r0.owd_M q).1, fun ws' q' => by rw [upd_ne (ne b q)]; exact q'⟩) (fun b z => ?_) r.dis (fun P z => st.tab P (r.tab P z))
    by_cases hb : b = a
    · rw [hb, upd_same]; exact ⟨ws, rfl⟩
    · rw [upd_ne hb]; exact r.trk b z
  have r2 := r1.set (i := i) (v := v) (s := z) (by rw [List.length_set]; exact hi) (RepR.mk h fun b ob q => ?_)
  · rw [List.set_set, σ_set eσ] at r2
    exact r2
  · -- b stands in slot i alone
    have r0 := r.unset i
    obtain ⟨j, t, w, e1, e2, q⟩ := q
    have ht : t ≠ .un := fun z => by subst z; exact q
    obtain ⟨w', q1, q2⟩ := r0.slot j t e1 ht
    rw [e2] at q1; cases q1
    have q3 : Ows H w t b := q.back q2 fun c oc ws' q' => by rw [upd_ne (ne c ⟨j, t, w, e1, e2, oc⟩)]; exact q'
    exact ho b ob ⟨j, t, w, e1, e2, q3⟩
theorem RepLoc.put (r : RepLoc tb K Xs M σ H l) {i : Nat} {ds es : List D} {a : Addr} {ws : List V} (e : l[i]? = some (.own ds)) (s : σ[i]? = some (some (.ref a))) (h : RepL K (Fb Xs M) H ws es) :
    Step M H M (upd H a (.lst ws)) ∧ RepLoc tb K Xs M σ (upd H a (.lst ws)) (l.set i (.own es)) := by
  obtain ⟨b, vs, h1, h2, h3, h4⟩ := r.own i ds e
  rw [s] at h1
  have : a = b := by simpa using h1
  subst this
  exact r.putS e s rfl ⟨a, ws, rfl, h2, upd_same, h.step (Step.put h2 h3)⟩ fun b o => r.only e s o
end

/-! ## targets -/
section
variable {X : Cx} {pr : List Nat}
theorem pgd_name {i : Nat} {x : Str} {pos : Pos} (hN : X.N.Nodup) (hi : X.N[i]? = some x) (hx : L2.Loc X.env.scope x) (hf : X.fn x = true ∨ X.env.scope.names.lookup x = some .local) (hp : i ∉ pr) : PGD X pr (.Name x pos) (.name i) := by
  refine ⟨gName i, pg_name hN hi hx hf, fun tb Xs σ H l l1 M v d Q r rv e q => ?_⟩
  unfold bindT at e
  split at e
  · rename_i h
    cases e
    exact q _ (r.set h rv) fun j hj => List.getElem?_set_ne (fun z => hp (by rw [z]; exact hj))
  · cases e
theorem pgsd_nil : PGsD X pr [] [] := ⟨gNil, pgs_nil, fun tb Xs σ H l l1 M vs ds Q r rv e q => by
  cases ds with
  | nil =>
    unfold bindT.bindTs at e
    cases e
    rw [RepL] at rv
    exact ⟨rv, q σ r Keep.refl⟩
  | cons d ds => unfold bindT.bindTs at e; cases e⟩
theorem pgsd_cons {e : Expr} {es : List Expr} {t' : Tg} {ts' : List Tg} (h1 : PGD X pr e t') (h2 : PGsD X pr es ts') (hs : notStar e = true) : PGsD X pr (e :: es) (t' :: ts') := by
  obtain ⟨t, ht, q⟩ := h1.ex
  obtain ⟨u, hu, p⟩ := h2.ex
  refine ⟨_, pgs_cons ht hu (by cases e <;> first | rfl | cases hs), fun tb Xs σ H l l1 M vs ds Q r rv e' g => ?_⟩
  cases ds with
  | nil => unfold bindT.bindTs at e'; cases e'
  | cons d ds =>
    unfold bindT.bindTs at e'
    cases e1 : bindT t' d l with
    | none => rw [e1] at e'; cases e'
    | some l2 =>
      rw [e1] at e'
      rw [RepL] at rv
      obtain ⟨v, rs, rfl, h3, h4⟩ := rv
      refine ⟨v, rs, rfl, q tb Xs σ H l l2 M v d _ r h3 e1 fun σ1 r1 k1 => ?_⟩
      exact p tb Xs σ1 H l2 l1 M rs ds Q r1 h4 e' fun σ2 r2 k2 => g σ2 r2 (k1.trans k2)
theorem bindTs_len : ∀ {ts : List Tg} {ds : List D} {l l1 : Loc}, bindT.bindTs ts ds l = some l1 → ds.length = ts.length
  | [], [], _, _, _ => rfl
  | [], _ :: _, _, _, e => by unfold bindT.bindTs at e; cases e
  | _ :: _, [], _, _, e => by unfold bindT.bindTs at e; cases e
  | t :: ts, d :: ds, l, l1, e => by
    unfold bindT.bindTs at e
    cases e1 : bindT t d l with
    | none => rw [e1] at e; cases e
    | some l2 =>
      rw [e1] at e
      rw [List.length_cons, List.length_cons, bindTs_len e]
theorem assignEach_ok {env : Env} : ∀ {es : List Expr}, es.all notStar = true → (assignEach es env).length = es.length ∧ (assignEach es env).findIdx? (·.1) = none
  | [], _ => ⟨rfl, rfl⟩
  | e :: es, h => by
    rw [List.all_cons, Bool.and_eq_true] at h
    obtain ⟨h1, h2⟩ := assignEach_ok (env := env) h.2
    have e0 : assignEach (e :: es) env = (false, assign e env) :: assignEach es env := by
      cases e <;> first | rfl | cases h.1
    rw [e0]
    refine ⟨by rw [List.length_cons, List.length_cons, h1], ?_⟩
    rw [List.findIdx?_cons]
    simp [h2]
theorem pgd_tup {es : List Expr} {k : Nat} {pos : Pos} {ts' : List Tg} (hc : X.calm = true) (h : PGsD X pr es ts') (hs : es.all notStar = true) (hl : ts'.length = es.length) : PGD X pr (.Tuple es k pos) (.tup ts') := by
  obtain ⟨t, ht, q⟩ := h.ex
  obtain ⟨a1, a2⟩ := assignEach_ok (env := X.env) hs
  refine ⟨_, pg_tup (n := es.length) hc ht a1 a2, fun tb Xs σ H l l1 M v d Q r rv e g => ?_⟩
  cases d with
  | tup ds =>
    rw [Rep] at rv
    obtain ⟨a, vs, rfl, h1, h2⟩ := rv
    have e' : bindT.bindTs ts' ds l = some l1 := by unfold bindT at e; exact e
    exact ⟨a, vs, rfl, h1.sq, by rw [h2.length, bindTs_len e', hl], q tb Xs σ H l l1 M vs ds Q r h2 e' g⟩
  | _ => unfold bindT at e; cases e
end
end DL

set_option Elab.async false
set_option linter.all false
set_option maxRecDepth 100000
set_option maxHeartbeats 4000000
namespace DL
open PySem PySem.Spec PyProof.Rows L2

/-! ## what is walked -/
def ItOk (K : PySem.W.Frag) (Xs : Ad) (J : It) (xs : List D) (M : Ad) (H : Hp) : Prop := ∀ M' H', Step M H M' H' → Trk (Fb Xs M') H' → ∀ i : Nat,
  (∀ d, xs[i]? = some d → J.go i H' ∧ ∀ x H'', J.yld i H' x H'' → (H'' = H' ∨ ∃ p o, H' p = none ∧ H'' = upd H' p o) ∧ Rep K (Fb Xs M') H'' x d) ∧ (xs.length ≤ i → J.stop i H')
structure PID (X : Cx) (W : WX) (xi : XI) (tg iter : Expr) (d : Loc → R (List D × Loc)) : Prop where
  ex : ∃ wi : TI, PI X tg iter wi ∧ ∀ (Xs : Ad) (σ : L2.St) (H : Hp) (l : Loc) (M : Ad) (Q : It → Hp → Prop), RepLoc xi.tb X.K Xs M σ H l →
    Po ⟨X.K, Xs, W, xi, σ⟩ M H (fun xs l' M' H' => ∀ J, ItOk X.K Xs J xs M' H' → Q J H') (d l) → wi σ H Q
/-- a list or a tuple -/
def iSeq (K : PySem.W.Frag) (tl : TE) : TI := fun σ H R => tl σ H fun x H1 => (∃ a, x = .ref a ∧ (∃ xs, SqL K H1 a xs) ∧ R (Itl K a) H1) ∨ (∃ a, x = .ref a ∧ (∃ xs, SqT K H1 a xs) ∧ R (Itt K a) H1)
section
variable {X : Cx} {W : WX} {xi : XI} {Γ : Gam} {tg : Expr}
theorem pi_seq {l : Expr} {tl : TE} (hl : PE X l tl) : PI X tg l (iSeq X.K tl) := by
  refine ⟨fun pins s σ H R I h => ?_⟩
  refine thn (hl.run pins s σ H _ I h) fun v s1 ⟨x, H1, I1, r1, q1⟩ => ?_
  rcases q1 with ⟨a, e, ⟨xs, hq⟩, q⟩ | ⟨a, e, ⟨xs, hq⟩, q⟩
  · subst e
    cases r1
    obtain ⟨its, rv, p, hz⟩ := I1.list hq
    refine wpAny_pyIter_list p.isList ?_
    refine ⟨s1.heap.objs.size, [s1.heap.objs.size], _, _, H1, rfl, I1.kept (t' := s1.toks) fun b o e => Heap.get?_push_of_some _ e, turn_list a _, ⟨_, Heap.get?_push_size _ rfl, rfl, rfl⟩, fun b hb => ?_, q⟩
    have e : b = s1.heap.objs.size := by simpa using hb
    subst e
    exact I1.fpOk (Nat.le_refl _) (I1.hok.fresh (Nat.le_refl _))
  · subst e
    cases r1
    obtain ⟨its, rv, p, hz⟩ := I1.tuple hq
    refine wpAny_pyIter_tuple (show s1.heap.IsTuple a its.toArray from p) ?_
    refine ⟨s1.heap.objs.size, [s1.heap.objs.size], _, _, H1, rfl, I1.kept (t' := s1.toks) fun b o e => Heap.get?_push_of_some _ e, turn_tuple a _, ⟨_, Heap.get?_push_size _ rfl, rfl, rfl⟩, fun b hb => ?_, q⟩
    have e : b = s1.heap.objs.size := by simpa using hb
    subst e
    exact I1.fpOk (Nat.le_refl _) (I1.hok.fresh (Nat.le_refl _))
theorem it_list {K : PySem.W.Frag} {Xs M : Ad} {H : Hp} {a : Addr} {vs : List V} {ds : List D} (h : SeqL K (Fb Xs M) H a vs) (r : RepL K (Fb Xs M) H vs ds) : ItOk K Xs (Itl K a) ds M H := by
  intro M' H' st tr i
  have h' : SeqL K (Fb Xs M') H' a vs := h.moveT (fun b u n e t => st.ext b u (fun z => n (.inr z)) e t) st.fb
  have r' := r.step st
  refine ⟨fun d e => ?_, fun e => ⟨vs, h'.sq, by rw [r'.length]; exact e⟩⟩
  obtain ⟨v, e1, e2⟩ := r'.get' e
  refine ⟨⟨vs, v, h'.sq, e1⟩, fun x H'' y => ⟨.inl y.1, ?_⟩⟩
  have := y.2 vs h'.sq
  rw [e1] at this
  cases this
  rw [y.1]; exact e2
theorem it_tup {K : PySem.W.Frag} {Xs M : Ad} {H : Hp} {a : Addr} {vs : List V} {ds : List D} (h : SeqT K (Fb Xs M) H a vs) (r : RepL K (Fb Xs M) H vs ds) : ItOk K Xs (Itt K a) ds M H := by
  intro M' H' st tr i
  have h' : SeqT K (Fb Xs M') H' a vs := h.moveT (fun b u n e t => st.ext b u (fun z => n (.inr z)) e t) st.fb
  have r' := r.step st
  refine ⟨fun d e => ?_, fun e => ⟨vs, h'.sq, by rw [r'.length]; exact e⟩⟩
  obtain ⟨v, e1, e2⟩ := r'.get' e
  refine ⟨⟨vs, v, h'.sq, e1⟩, fun x H'' y => ⟨.inl y.1, ?_⟩⟩
  have := y.2 vs h'.sq
  rw [e1] at this
  cases this
  rw [y.1]; exact e2
theorem it_range {K : PySem.W.Frag} {Xs M : Ad} {H : Hp} {a b : Int} : ItOk K Xs (Itr a (b - a).toNat) (rgD a b) M H := by
  intro M' H' st tr i
  refine ⟨fun d e => ?_, fun e => ?_⟩
  · unfold rgD at e
    rw [List.getElem?_map] at e
    cases e1 : (List.range (b - a).toNat)[i]? with
    | none => rw [e1] at e; cases e
    | some j =>
      rw [e1] at e
      obtain ⟨h1, h2⟩ := List.getElem?_eq_some_iff.mp e1
      rw [List.getElem_range] at h2
      subst h2
      rw [List.length_range] at h1
      cases e
      refine ⟨h1, fun x H'' y => ⟨.inl y.1, ?_⟩⟩
      rw [y.2]; exact Rep.int _
  · unfold rgD at e
    rw [List.length_map, List.length_range] at e
    exact e
/-- the items of an iterable -/
def evI (Γ : Gam) (ik : Nat) (ies : List E) (l : Loc) : R (List D × Loc) := (evDs Γ ies l).bind fun r => match items ik r.1 with
  | none => .bad
  | some xs => .ok (xs, r.2)
theorem evDs_one (Γ : Gam) (e : E) (l : Loc) : evDs Γ [e] l = (evX Γ e l).bind fun r => .ok ([r.1.d], r.2) := by
  rw [evDs.eq_def]
  dsimp only
  cases evX Γ e l with
  | bad => rfl
  | exc x l => rfl
  | ok r => dsimp only [R.bind]; rw [evDs.eq_def]
theorem pid_seq {e : Expr} {e' : E} (h : PD X W xi e (evX Γ e')) : PID X W xi tg e (evI Γ 0 [e']) := by
  obtain ⟨t, ht, q⟩ := h.ex
  refine ⟨_, pi_seq ht, fun Xs σ H l M Q r g => ?_⟩
  unfold evI at g
  rw [evDs_one] at g
  refine q Xs σ H l M _ r (g.bind.bind.imp fun s l1 M1 H1 st1 rl1 g1 v rv => ?_)
  obtain ⟨M1', hm, rl1', rv'⟩ := RepR.frozen rl1 rv
  have g2 := (g1 M1 H1 Step.refl rl1).shift (Step.refl.less hm)
  dsimp only at g2
  cases ed : s.d with
  | lst ds =>
    rw [ed] at g2 rv'
    rw [Rep] at rv'
    obtain ⟨a, vs, rfl, h1, h2⟩ := rv'
    exact .inl ⟨a, rfl, ⟨vs, h1.sq⟩, g2 M1' H1 Step.refl rl1' _ (it_list h1 h2)⟩
  | tup ds =>
    rw [ed] at g2 rv'
    rw [Rep] at rv'
    obtain ⟨a, vs, rfl, h1, h2⟩ := rv'
    exact .inr ⟨a, rfl, ⟨vs, h1.sq⟩, g2 M1' H1 Step.refl rl1' _ (it_tup h1 h2)⟩
  | non => rw [ed] at g2; exact g2.elim
  | bl b => rw [ed] at g2; exact g2.elim
  | int b => rw [ed] at g2; exact g2.elim
  | str b => rw [ed] at g2; exact g2.elim
theorem rgOk_iff {a b : Int} (h : rgOk a b = true) : -(2 ^ 62) ≤ a ∧ a < 2 ^ 62 ∧ -(2 ^ 62) ≤ b ∧ b < 2 ^ 62 ∧ (b - a).toNat ≤ 2 ^ 24 := of_decide_eq_true h
theorem items1 {ds xs : List D} (h : items 1 ds = some xs) : ∃ n, ds = [.int n] ∧ rgOk 0 n = true ∧ xs = rgD 0 n := by
  unfold items at h
  split at h <;> first | contradiction | skip
  split at h
  · rename_i hr
    cases h
    exact ⟨_, rfl, hr, rfl⟩
  · cases h
theorem items2 {ds xs : List D} (h : items 2 ds = some xs) : ∃ a b, ds = [.int a, .int b] ∧ rgOk a b = true ∧ xs = rgD a b := by
  unfold items at h
  split at h <;> first | contradiction | skip
  split at h
  · rename_i hr
    cases h
    exact ⟨_, _, rfl, hr, rfl⟩
  · cases h
theorem pid_rg1 {e : Expr} {e' : E} {p pos : Pos} (hg : Gl X "range") (hm : X.mg "range" = none) (h : PLD X W xi [e] (evDs Γ [e'])) (hs : notStar e = true) : PID X W xi tg (.Call (.Name "range" p) [e] [] pos) (evI Γ 1 [e']) := by
  obtain ⟨t, ht, q⟩ := h.ex
  refine ⟨_, pi_range1 hg hm ht (by rw [starEach_cons hs]; rfl), fun Xs σ H l M Q r g => ?_⟩
  unfold evI at g
  refine q Xs σ H l M _ r (g.bind.imp fun ds l1 M1 H1 st1 rl1 g1 vs rv => ?_)
  dsimp only at g1
  split at g1
  · exact g1.elim
  · rename_i xs e1
    obtain ⟨n, rfl, hr, rfl⟩ := items1 e1
    obtain ⟨_, _, h3, h4, _⟩ := rgOk_iff hr
    rw [RepL] at rv
    obtain ⟨v, rs, rfl, h1, h2⟩ := rv
    rw [RepL] at h2
    subst h2
    have ev : v = .int n := by simpa [Rep] using h1
    subst ev
    refine ⟨n, rfl, h3, h4, g1 M1 H1 Step.refl rl1 _ ?_⟩
    have := it_range (K := X.K) (Xs := Xs) (M := M1) (H := H1) (a := 0) (b := n)
    rw [Int.sub_zero] at this
    exact this
theorem pid_rg2 {e f : Expr} {e' f' : E} {p pos : Pos} (hg : Gl X "range") (hm : X.mg "range" = none) (h : PLD X W xi [e, f] (evDs Γ [e', f'])) (hs : notStar e = true) (hs2 : notStar f = true) : PID X W xi tg (.Call (.Name "range" p) [e, f] [] pos) (evI Γ 2 [e', f']) := by
  obtain ⟨t, ht, q⟩ := h.ex
  refine ⟨_, pi_range2 hg hm ht (by rw [starEach_cons hs, starEach_cons hs2]; rfl) (by rw [starEach_cons hs2]; rfl), fun Xs σ H l M Q r g => ?_⟩
  unfold evI at g
  refine q Xs σ H l M _ r (g.bind.imp fun ds l1 M1 H1 st1 rl1 g1 vs rv => ?_)
  dsimp only at g1
  split at g1
  · exact g1.elim
  · rename_i xs e1
    obtain ⟨a, b, rfl, hr, rfl⟩ := items2 e1
    obtain ⟨h5, h6, h3, h4, _⟩ := rgOk_iff hr
    rw [RepL] at rv
    obtain ⟨v, rs, rfl, h1, h2⟩ := rv
    rw [RepL] at h2
    obtain ⟨w, rs, rfl, h7, h8⟩ := h2
    rw [RepL] at h8
    subst h8
    have ev : v = .int a := by simpa [Rep] using h1
    have ew : w = .int b := by simpa [Rep] using h7
    subst ev ew
    exact ⟨a, b, rfl, ⟨h5, h6, h3, h4⟩, g1 M1 H1 Step.refl rl1 _ it_range⟩
end

/-! ## loops -/
section
variable {X : Cx} {W : WX} {xi : XI} {Γ : Gam} {pr : List Nat} {tg iter : Expr} {body : List Stmt} {pos : Pos}
theorem RepLoc.heap {K : PySem.W.Frag} {Xs M : Ad} {σ : L2.St} {H H' : Hp} {l : Loc} (r : RepLoc tb K Xs M σ H l) (h : H' = H ∨ ∃ p o, H p = none ∧ H' = upd H p o) : Step M H M H' ∧ RepLoc tb K Xs M σ H' l := by
  rcases h with rfl | ⟨p, o, n, rfl⟩
  · exact ⟨Step.refl, r⟩
  · exact ⟨Step.new n, r.new n⟩
theorem RepLoc.trk' {K : PySem.W.Frag} {Xs M : Ad} {σ : L2.St} {H : Hp} {l : Loc} (r : RepLoc tb K Xs M σ H l) : Trk (Fb Xs M) H := fun a z e => by
  obtain ⟨vs, q⟩ := r.trk a z
  rw [e] at q; cases q
theorem psd_for {t' : Tg} {ik : Nat} {ies : List E} {b' : List S} (hp : PassesOwn (model X.prog X.w) X.A X.env X.xe) (hc : X.calm = true) (hi : PID X W xi tg iter (evI Γ ik ies)) (hg : PGD X pr tg t') (hb : PBD X W xi pr body (exB Γ b')) (hfs : ∀ x, foldedSetIterable iter X.env x = pure x) :
    PSD X W xi pr (.For tg iter body [] pos) (exS Γ (.fer t' ik ies b')) := by
  obtain ⟨wi, hwi, qi⟩ := hi.ex
  obtain ⟨g, hg', qg⟩ := hg.ex
  obtain ⟨tb, htb, qb⟩ := hb.ex
  refine ⟨_, ps_for hp hc hwi hg' htb hfs, fun Xs σ H l M D r k => ?_⟩
  have e0 : exS Γ (.fer t' ik ies b') l = (evI Γ ik ies l).bind fun r => forL (bindT t') (exB Γ b') r.1 r.2 := by
    rw [exS.eq_def]
    unfold evI
    dsimp only
    cases evDs Γ ies l with
    | bad => rfl
    | exc x l => rfl
    | ok r =>
      dsimp only [R.bind]
      cases items ik r.1 <;> rfl
  rw [e0] at k
  refine qi Xs σ H l M _ r (k.bind.imp fun xs l1 M1 H1 st1 rl1 k1 J hJ => ?_)
  dsimp only [Cs.cf] at k1 rl1
  refine ⟨fun i m σ2 H2 => m = xs.length - i ∧ i ≤ xs.length ∧ ∃ M2 l2, Step M1 H1 M2 H2 ∧ Keep pr σ σ2 ∧ RepLoc xi.tb X.K Xs M2 σ2 H2 l2 ∧ PoS ⟨X.K, Xs, W, xi, pr⟩ σ2 M2 H2 D (forL (bindT t') (exB Γ b') (xs.drop i) l2), ⟨xs.length, by omega, Nat.zero_le _, M1, l1, Step.refl, Keep.refl, rl1, k1⟩, ?_⟩
  rintro i m σ2 H2 ⟨rfl, hi, M2, l2, st2, kp2, rl2, k2⟩
  obtain ⟨J1, J2⟩ := hJ M2 H2 st2 rl2.trk' i
  by_cases hlt : i < xs.length
  · rw [List.drop_eq_getElem_cons hlt] at k2
    unfold forL at k2
    obtain ⟨go, yl⟩ := J1 _ (List.getElem?_eq_getElem hlt)
    cases e1 : bindT t' xs[i] l2 with
    | none => rw [e1] at k2; exact k2.elim
    | some l3 =>
      rw [e1] at k2
      dsimp only at k2
      refine .inr ⟨go, fun σ' H' => ∃ M' l', Step M1 H1 M' H' ∧ Keep pr σ σ' ∧ RepLoc xi.tb X.K Xs M' σ' H' l' ∧ PoS ⟨X.K, Xs, W, xi, pr⟩ σ' M' H' D (forL (bindT t') (exB Γ b') (xs.drop (i + 1)) l'), fun σ' H' ⟨M', l', q1, q2, q3, q4⟩ => ⟨xs.length - (i + 1), by omega, rfl, hlt, M', l', q1, q2, q3, q4⟩, fun x H3 y => ?_⟩
      obtain ⟨hh, rx⟩ := yl x H3 y
      obtain ⟨st3, rl3⟩ := rl2.heap hh
      refine qg _ Xs σ2 H3 l2 l3 M2 x _ _ rl3 rx e1 fun σ3 rl4 kp4 => ?_
      refine qb Xs σ3 H3 l3 M2 _ rl4 ?_
      have k3 := k2.shift st3 kp4
      have st5 := st2.trans st3
      have kp5 := kp2.trans kp4
      cases eb : exB Γ b' l3 with
      | bad => rw [eb] at k3; exact k3.elim
      | exc x l => rw [eb] at k3; exact k3
      | ok r =>
        obtain ⟨f, l4⟩ := r
        rw [eb] at k3
        cases f with
        | nx => exact fun σ' M' H' s' r' kk => ⟨M', l4, st5.trans s', kp5.trans kk, r', PoS.shift (show PoS _ σ3 M2 H3 D (forL (bindT t') (exB Γ b') (xs.drop (i + 1)) l4) from k3) s' kk⟩
        | cnt => exact fun σ' M' H' s' r' kk => ⟨M', l4, st5.trans s', kp5.trans kk, r', PoS.shift (show PoS _ σ3 M2 H3 D (forL (bindT t') (exB Γ b') (xs.drop (i + 1)) l4) from k3) s' kk⟩
        | brk => exact k3
        | ret s => exact k3
  · have e : i = xs.length := by omega
    subst e
    refine .inl ⟨J2 (Nat.le_refl _), ?_⟩
    rw [List.drop_length] at k2
    unfold forL at k2
    exact k2 σ2 M2 H2 Step.refl rl2 Keep.refl
theorem psd_whl {c : Expr} {c' : E} {b' : List S} (hp : PassesOwn (model X.prog X.w) X.A X.env X.xe) (hc : PTD X W xi c (evT Γ c')) (hb : PBD X W xi pr body (exB Γ b')) : PSD X W xi pr (.While c body [] pos) (exS Γ (.whl c' b')) := by
  obtain ⟨tc, htc, qc⟩ := hc.ex
  obtain ⟨tb, htb, qb⟩ := hb.ex
  refine ⟨_, ps_while hp htc htb, fun Xs σ H l M D r k => ?_⟩
  rw [exS.eq_def] at k
  dsimp only at k
  generalize whileFuel = n at k
  refine ⟨fun m σ2 H2 => ∃ M2 l2, Step M H M2 H2 ∧ Keep pr σ σ2 ∧ RepLoc xi.tb X.K Xs M2 σ2 H2 l2 ∧ PoS ⟨X.K, Xs, W, xi, pr⟩ σ2 M2 H2 D (whileL (evT Γ c') (exB Γ b') m l2), ⟨n, M, l, Step.refl, Keep.refl, r, k⟩, ?_⟩
  rintro m σ2 H2 ⟨M2, l2, st2, kp2, rl2, k2⟩
  cases m with
  | zero => unfold whileL at k2; exact k2.elim
  | succ m =>
    unfold whileL at k2
    refine qc Xs σ2 H2 l2 M2 _ rl2 (k2.bind.imp fun b l3 M3 H3 st3 rl3 k3 => ?_)
    dsimp only at k3
    cases b with
    | false => exact k3 σ2 M3 H3 Step.refl rl3 Keep.refl
    | true =>
      rw [if_pos rfl]
      refine ⟨fun σ' H' => ∃ M' l', Step M H M' H' ∧ Keep pr σ σ' ∧ RepLoc xi.tb X.K Xs M' σ' H' l' ∧ PoS ⟨X.K, Xs, W, xi, pr⟩ σ' M' H' D (whileL (evT Γ c') (exB Γ b') m l'), fun σ' H' ⟨M', l', q1, q2, q3, q4⟩ => ⟨m, Nat.lt_succ_self _, M', l', q1, q2, q3, q4⟩, ?_⟩
      refine qb Xs σ2 H3 l3 M3 _ rl3 ?_
      rw [if_pos rfl] at k3
      have st5 := st2.trans st3
      cases eb : exB Γ b' l3 with
      | bad => rw [eb] at k3; exact k3.elim
      | exc x l => rw [eb] at k3; exact k3
      | ok r =>
        obtain ⟨f, l4⟩ := r
        rw [eb] at k3
        cases f with
        | nx => exact fun σ' M' H' s' r' kk => ⟨M', l4, st5.trans s', kp2.trans kk, r', PoS.shift (show PoS _ σ2 M3 H3 D (whileL (evT Γ c') (exB Γ b') m l4) from k3) s' kk⟩
        | cnt => exact fun σ' M' H' s' r' kk => ⟨M', l4, st5.trans s', kp2.trans kk, r', PoS.shift (show PoS _ σ2 M3 H3 D (whileL (evT Γ c') (exB Γ b') m l4) from k3) s' kk⟩
        | brk => exact k3
        | ret s => exact k3
end
end DL

set_option Elab.async false
set_option linter.all false
set_option maxRecDepth 100000
set_option maxHeartbeats 4000000
namespace DL
open PySem PySem.Spec PyProof.Rows L2

/-! ## comprehensions -/
/-- over all contexts of a family at once: the weakest -/
def wE {ι : Type} (F : ι → Cx) (e : Expr) : TE := fun σ H Q => ∀ (i : ι) (pins : List (Addr × Obj)) (s : Shared), Inv (F i) pins σ H s → wpAny (model (F i).prog (F i).w) (F i).A (eval e (F i).env) (EP (F i) pins σ Q) (F i).xe s
def wGt {ι : Type} (F : ι → Cx) (tg : Expr) : TG := fun v σ H Q => ∀ (i : ι) (pins : List (Addr × Obj)) (s : Shared) (u : Value), Inv (F i) pins σ H s → RelV v u → wpAny (model (F i).prog (F i).w) (F i).A (assign tg (F i).env u) (fun _ s' => ∃ σ' H', Inv (F i) pins σ' H' s' ∧ Q σ' H') (F i).xe s
def wTs {ι : Type} (F : ι → Cx) (ifs : List Expr) : TT := fun σ H Q => ∀ (i : ι) (pins : List (Addr × Obj)) (s : Shared), Inv (F i) pins σ H s →
  wpAny (model (F i).prog (F i).w) (F i).A (forIn ifs true fun c r => if r = true then do let ok ← isTrue c (F i).env (eval c (F i).env); pure (ForInStep.yield ok) else pure (ForInStep.yield r)) (TP (F i) pins σ Q) (F i).xe s
theorem wE_pe {ι : Type} (F : ι → Cx) (e : Expr) (i : ι) : PE (F i) e (wE F e) := ⟨fun pins s σ H Q I h => h i pins s I⟩
theorem wG_pg {ι : Type} (F : ι → Cx) (e : Expr) (i : ι) : PG (F i) e (wGt F e) := ⟨fun pins s σ H v u Q I r h => h i pins s u I r⟩
theorem wTs_pts {ι : Type} (F : ι → Cx) (e : List Expr) (i : ι) : PTs (F i) e (wTs F e) := ⟨fun pins s σ H Q I h => h i pins s I⟩
/-- a clause's tests -/
structure PTsD (X : Cx) (W : WX) (xi : XI) (ifs : List Expr) (d : Loc → R (Bool × Loc)) : Prop where
  ex : ∃ t : TT, PTs X ifs t ∧ ∀ (Xs : Ad) (σ : L2.St) (H : Hp) (l : Loc) (M : Ad) (Q : Bool → Hp → Prop), RepLoc xi.tb X.K Xs M σ H l →
    Po ⟨X.K, Xs, W, xi, σ⟩ M H (fun b l' M' H' => Q b H') (d l) → t σ H Q
theorem ptsd_nil {X : Cx} {W : WX} {xi : XI} {Γ : Gam} : PTsD X W xi [] (evTs Γ []) := ⟨_, pts_nil, fun Xs σ H l M Q r h => by
  rw [evTs.eq_def] at h
  exact h M H Step.refl r⟩
theorem ptsd_one {X : Cx} {W : WX} {xi : XI} {Γ : Gam} {c : Expr} {c' : E} (h : PTD X W xi c (evT Γ c')) : PTsD X W xi [c] (evTs Γ [c']) := by
  obtain ⟨t, ht, q⟩ := h.ex
  refine ⟨t, pts_one ht, fun Xs σ H l M Q r h => q Xs σ H l M Q r ?_⟩
  rw [evTs.eq_def] at h
  exact h

section
variable {K : PySem.W.Frag} {Xs M : Ad} {σ : L2.St} {H : Hp} {l : Loc} {D : Addr}
/-- a list under way: at D, of no slot -/
abbrev Wx (Xs : Ad) (D : Addr) : Ad := fun a => Xs a ∨ a = D
theorem RepLoc.hide (r : RepLoc tb K Xs M σ H l) (n : H D = none) : RepLoc tb K (Wx Xs D) M σ (upd H D (.lst [])) l :=
  r.same (fun b u _ e _ => by rw [upd_ne (ne_of_none e n)]; exact e) (fun b z => by
    rcases z with (z | rfl) | z
    · exact .inl (.inl z)
    · exact .inr n
    · exact .inl (.inr z)) (fun a z => ⟨(r.owd_M z).1, fun ws e => by rw [upd_ne (ne_of_none e n)]; exact e⟩) (fun a z => by
    by_cases ha : a = D
    · rw [ha, upd_same]; exact ⟨[], rfl⟩
    · obtain ⟨ws, e⟩ := r.trk a (by
        rcases z with (z | z) | z
        · exact .inl z
        · exact absurd z ha
        · exact .inr z)
      exact ⟨ws, by rw [upd_ne ha]; exact e⟩) (fun a x m => by
    rcases x with x | rfl
    · exact r.dis a x m
    · exact r.fresh n (.inr m)) (fun P z => tab_upd (fun ps q => by rw [n] at q; cases q) (r.tab P z))
theorem fb_same {a : Addr} : Fb (Wx Xs D) M a ↔ Fb Xs (fun b => M b ∨ b = D) a := by
  constructor
  · rintro ((x | x) | x)
    · exact .inl x
    · exact .inr (.inr x)
    · exact .inr (.inl x)
  · rintro (x | x | x)
    · exact .inl (.inl x)
    · exact .inr x
    · exact .inl (.inr x)
/-- .. it is one's own in the end -/
theorem RepLoc.give (r : RepLoc tb K (Wx Xs D) M σ H l) (nx : ¬ Xs D) : RepLoc tb K Xs (fun b => M b ∨ b = D) σ H l :=
  r.same (fun _ _ _ e _ => e) (fun b z => .inl (fb_same.mpr z)) (fun a z => ⟨.inl (r.owd_M z).1, fun _ e => e⟩) (fun a z => r.trk a (fb_same.mpr z)) (fun a x z => z.elim (r.dis a (.inl x)) fun e => nx (by rw [← e]; exact x)) r.tab
theorem RepLoc.putX (r : RepLoc tb K (Wx Xs D) M σ H l) (xs : List V) : RepLoc tb K (Wx Xs D) M σ (upd H D (.lst xs)) l :=
  r.same (fun b u n e _ => by rw [upd_ne (fun z => n (.inl (.inr z)))]; exact e) (fun b z => .inl z) (fun a z => by
    have hm := (r.owd_M z).1
    exact ⟨hm, fun ws e => by rw [upd_ne (fun q => r.dis D (.inr rfl) (by rw [← q]; exact hm))]; exact e⟩) (fun a z => by
    by_cases ha : a = D
    · rw [ha, upd_same]; exact ⟨xs, rfl⟩
    · obtain ⟨ws, e⟩ := r.trk a z
      exact ⟨ws, by rw [upd_ne ha]; exact e⟩) r.dis (fun P z => tab_upd (fun ps q => by obtain ⟨ws, e⟩ := r.trk D (.inl (.inr rfl)); rw [e] at q; cases q) (r.tab P z))
theorem wipeD_length (l : Loc) : ∀ vs : List Nat, (wipeD l vs).length = l.length
  | [] => rfl
  | v :: vs => by unfold wipeD; rw [List.length_set, wipeD_length l vs]
theorem wipeD_get {l : Loc} {i : Nat} {s : Sl} (hs : s ≠ .un) : ∀ {vs : List Nat}, (wipeD l vs)[i]? = some s → l[i]? = some s ∧ i ∉ vs
  | [], h => ⟨h, by simp⟩
  | v :: vs, h => by
    unfold wipeD at h
    by_cases hi : v = i
    · subst hi
      by_cases hv : v < (wipeD l vs).length
      · rw [List.getElem?_set_self hv] at h; cases h; exact absurd rfl hs
      · rw [List.getElem?_eq_none (by simpa using hv)] at h; cases h
    · rw [List.getElem?_set_ne hi] at h
      obtain ⟨h1, h2⟩ := wipeD_get hs h
      exact ⟨h1, fun z => (List.mem_cons.mp z).elim (fun e => hi e.symm) h2⟩
theorem wipeD_val {l : Loc} {i : Nat} {d : DL.D} {vs : List Nat} (h : (wipeD l vs)[i]? = some (.val d)) : l[i]? = some (.val d) ∧ i ∉ vs := wipeD_get (s := .val d) (fun z => by cases z) h
theorem wipeD_own {l : Loc} {i : Nat} {d : List DL.D} {vs : List Nat} (h : (wipeD l vs)[i]? = some (.own d)) : l[i]? = some (.own d) ∧ i ∉ vs := wipeD_get (s := .own d) (fun z => by cases z) h
theorem wipe_get {σ : L2.St} {i : Nat} : ∀ {vs : List Nat}, i ∉ vs → (wipe σ vs)[i]? = σ[i]?
  | [], _ => rfl
  | v :: vs, h => by
    unfold wipe
    rw [List.getElem?_set_ne (fun e => h (by rw [e]; exact List.mem_cons_self)), wipe_get fun z => h (List.mem_cons_of_mem _ z)]
theorem wipe_in {σ : L2.St} {i : Nat} : ∀ {vs : List Nat}, i ∈ vs → i < σ.length → (wipe σ vs)[i]? = some none
  | v :: vs, h, hl => by
    unfold wipe
    by_cases hi : v = i
    · subst hi; rw [List.getElem?_set_self (by rw [wipe_length]; exact hl)]
    · rw [List.getElem?_set_ne hi]
      exact wipe_in ((List.mem_cons.mp h).resolve_left fun e => hi e.symm) hl
theorem wipe_eq {σ σ2 : L2.St} {vs : List Nat} (hl : σ2.length = σ.length) (h : ∀ i, i < σ.length → i ∉ vs → σ2[i]? = σ[i]?) : wipe σ2 vs = wipe σ vs := by
  refine List.ext_getElem? fun i => ?_
  by_cases hi : i < σ.length
  · by_cases hv : i ∈ vs
    · rw [wipe_in hv (by rw [hl]; exact hi), wipe_in hv hi]
    · rw [wipe_get hv, wipe_get hv]; exact h i hi hv
  · rw [List.getElem?_eq_none (by rw [wipe_length]; omega), List.getElem?_eq_none (by rw [wipe_length]; omega)]
theorem RepLoc.wipe (r : RepLoc tb K Xs M σ H l) (vs : List Nat) : RepLoc tb K Xs M (L2.wipe σ vs) H (wipeD l vs) :=
  r.sub (by rw [wipe_length, wipeD_length]; exact r.len) fun i s e n => by
    obtain ⟨h1, h2⟩ := wipeD_get n e
    exact ⟨h1, wipe_get h2⟩
theorem RepLoc.unwipe {vs : List Nat} (r : RepLoc tb K Xs M (L2.wipe σ vs) H (wipeD l vs)) : RepLoc tb K Xs M σ H (wipeD l vs) :=
  r.sub (by rw [← r.len, wipe_length]) fun i s e n => ⟨e, (wipe_get (wipeD_get n e).2).symm⟩
end
mutual
theorem bindT_ln : ∀ (t : Tg) (d : D) (l l' : Loc), bindT t d l = some l' → l'.length = l.length
  | .name i, d, l, l', h => by
    unfold bindT at h
    split at h
    · cases h; rw [List.length_set]
    · cases h
  | .tup ts, .tup ds, l, l', h => by
    unfold bindT at h
    exact bindTs_ln ts ds l l' h
  | .tup ts, .non, l, l', h => by unfold bindT at h; cases h
  | .tup ts, .bl _, l, l', h => by unfold bindT at h; cases h
  | .tup ts, .int _, l, l', h => by unfold bindT at h; cases h
  | .tup ts, .str _, l, l', h => by unfold bindT at h; cases h
  | .tup ts, .lst _, l, l', h => by unfold bindT at h; cases h
theorem bindTs_ln : ∀ (ts : List Tg) (ds : List D) (l l' : Loc), bindT.bindTs ts ds l = some l' → l'.length = l.length
  | [], [], l, l', h => by unfold bindT.bindTs at h; cases h; rfl
  | t :: ts, d :: ds, l, l', h => by
    unfold bindT.bindTs at h
    cases e : bindT t d l with
    | none => rw [e] at h; cases h
    | some l1 =>
      rw [e] at h
      exact (bindTs_ln ts ds l1 l' h).trans (bindT_ln t d l l1 e)
  | [], _ :: _, l, l', h => by unfold bindT.bindTs at h; cases h
  | _ :: _, [], l, l', h => by unfold bindT.bindTs at h; cases h
end
theorem Step.wx {M M' : Ad} {H H' : Hp} {D : Addr} (s : Step M H M' H') : Step (fun b => M b ∨ b = D) H (fun b => M' b ∨ b = D) H' :=
  ⟨fun b u n e t => s.ext b u (fun z => n (.inl z)) e t, s.non, fun b z => z.elim (fun q => (s.grow b q).elim (fun q => .inl (.inl q)) .inr) (fun e => .inl (.inr e)), s.tab⟩
/-- nothing leaves a block -/
abbrev W0 : WX := fun _ _ _ _ => False
section
variable {X : Cx} {W : WX} {xi : XI} {Γ : Gam} {elt tg iter : Expr} {ifs : List Expr} {scope : Scope} {own : List (Str × Nat)} {pos : Pos} {e' : E} {t' : Tg} {ik : Nat} {ies fs : List E} {pr ws : List Nat}
structure BI where
  s : Shared
  H : Hp
  C : Addr
  cl : List (Str × Addr)
  fp : List Addr
abbrev blkF (X : Cx) (scope : Scope) (i : BI) : Cx := X.blk i.s i.H scope (compEnvC scope i.cl i.C X.env) i.fp
/-- the run, from what is walked on -/
theorem lc_core1 (hg : ∀ i, PGD (blkF X scope i) pr tg t') (ht : ∀ i, PTsD (blkF X scope i) W0 xi ifs (evTs Γ fs)) (he : ∀ i, PD (blkF X scope i) W0 xi elt (evX Γ e')) (hpr : ∀ i, i < X.N.length → i ∉ ws → i ∈ pr)
    {wi : TI} {Xs M : Ad} {σ : L2.St} {H : Hp} {d : R (List DL.D × Loc)} {Q : VK} (hσ : σ.length = X.N.length) (qi : ∀ R : It → Hp → Prop, Po ⟨X.K, Xs, W, xi, σ⟩ M H (fun xs l' M' H' => ∀ J, ItOk X.K Xs J xs M' H' → R J H') d → wi σ H R)
    (k : Po ⟨X.K, Xs, W, xi, σ⟩ M H (fun s l' M' H' => ∀ v, RepR X.K Xs M' σ l' H' v s → Q v H') (d.bind fun r => match compL (bindT t') (evTs Γ fs) (evX Γ e') ws r.1 [] (wipeD r.2 ws) with
      | .ok (ds, l1) => .ok (.own ds, l1)
      | _ => .bad)) : tLc wi (wGt (blkF X scope) tg) (wTs (blkF X scope) ifs) (wE (blkF X scope) elt) ws σ H Q := by
  refine qi _ (k.bind.imp fun xs l1 M1 H1 st1 rl1 k1 J hJ D nD => ?_)
  dsimp only at k1
  have nXD : ¬ Fb Xs M1 D := rl1.fresh nD
  -- what is left to do
  let Fin : List DL.D → List DL.D → Loc → Ad → Hp → Prop := fun xs acc l2 M2 H2 => match compL (bindT t') (evTs Γ fs) (evX Γ e') ws xs acc l2 with
    | .ok (ds, l3) => ∀ M' H', Step M2 H2 M' H' → RepLoc xi.tb X.K Xs M' σ H' l3 → ∀ v, RepR X.K Xs M' σ l3 H' v (.own ds) → Q v H'
    | _ => False
  have shift : ∀ {xs acc l2 M2 H2 M3 H3}, Fin xs acc l2 M2 H2 → Step M2 H2 M3 H3 → Fin xs acc l2 M3 H3 := fun {xs acc l2 M2 H2 M3 H3} h s => by
    show match compL (bindT t') (evTs Γ fs) (evX Γ e') ws xs acc l2 with
      | .ok (ds, l3) => ∀ M' H', Step M3 H3 M' H' → RepLoc xi.tb X.K Xs M' σ H' l3 → ∀ v, RepR X.K Xs M' σ l3 H' v (.own ds) → Q v H'
      | _ => False
    have h : match compL (bindT t') (evTs Γ fs) (evX Γ e') ws xs acc l2 with
      | .ok (ds, l3) => ∀ M' H', Step M2 H2 M' H' → RepLoc xi.tb X.K Xs M' σ H' l3 → ∀ v, RepR X.K Xs M' σ l3 H' v (.own ds) → Q v H'
      | _ => False := h
    cases e : compL (bindT t') (evTs Γ fs) (evX Γ e') ws xs acc l2 with
    | ok r => rw [e] at h; exact fun M' H' s2 => h M' H' (s.trans s2)
    | exc x l => rw [e] at h; exact h
    | bad => rw [e] at h; exact h
  let St : Nat → Hp → Prop := fun i H2 => ∃ (M2 : Ad) (l2 : Loc) (acc : List DL.D) (vs : List V), Step M1 H1 (fun b => M2 b ∨ b = D) H2 ∧ RepLoc xi.tb X.K (Wx Xs D) M2 (L2.wipe σ ws) H2 (wipeD l2 ws) ∧ H2 D = some (.lst vs) ∧ RepL X.K (Fb (Wx Xs D) M2) H2 vs acc ∧
    Fin (xs.drop i) acc (wipeD l2 ws) (fun b => M2 b ∨ b = D) H2
  refine ⟨fun i m H2 => m = xs.length - i ∧ i ≤ xs.length ∧ St i H2, ⟨xs.length, by omega, Nat.zero_le _, M1, l1, [], [], Step.newM nD, (rl1.hide nD).wipe ws, upd_same, RepL.nil, ?_⟩, ?_⟩
  · rw [List.drop_zero]
    show match compL (bindT t') (evTs Γ fs) (evX Γ e') ws xs [] (wipeD l1 ws) with
      | .ok (ds, l3) => ∀ M' H', Step (fun b => M1 b ∨ b = D) (upd H1 D (.lst [])) M' H' → RepLoc xi.tb X.K Xs M' σ H' l3 → ∀ v, RepR X.K Xs M' σ l3 H' v (.own ds) → Q v H'
      | _ => False
    cases e : compL (bindT t') (evTs Γ fs) (evX Γ e') ws xs [] (wipeD l1 ws) with
    | ok r => rw [e] at k1; exact fun M' H' s2 rl v rv => k1 M' H' ((Step.newM nD).trans s2) rl v rv
    | exc x l => rw [e] at k1; exact k1
    | bad => rw [e] at k1; exact k1
  · rintro i m H2 ⟨rfl, hi, M2, l2, acc, vs, st2, rl2, hD, ra, k2⟩
    have trk2 : Trk (Fb Xs fun b => M2 b ∨ b = D) H2 := fun a z => rl2.trk' a (fb_same.mpr z)
    obtain ⟨J1, J2⟩ := hJ _ H2 st2 trk2 i
    by_cases hlt : i < xs.length
    · rw [List.drop_eq_getElem_cons hlt] at k2
      have k2 : match compL (bindT t') (evTs Γ fs) (evX Γ e') ws (xs[i] :: xs.drop (i + 1)) acc (wipeD l2 ws) with
        | .ok (ds, l3) => ∀ M' H', Step (fun b => M2 b ∨ b = D) H2 M' H' → RepLoc xi.tb X.K Xs M' σ H' l3 → ∀ v, RepR X.K Xs M' σ l3 H' v (.own ds) → Q v H'
        | _ => False := k2
      unfold compL at k2
      obtain ⟨go, yl⟩ := J1 _ (List.getElem?_eq_getElem hlt)
      cases e1 : bindT t' xs[i] (wipeD (wipeD l2 ws) ws) with
      | none => rw [e1] at k2; exact k2.elim
      | some l3 =>
        rw [e1] at k2
        dsimp only at k2
        refine .inr ⟨go, St (i + 1), fun H' h => ⟨xs.length - (i + 1), by omega, rfl, hlt, h⟩, fun x H3 y => ?_⟩
        obtain ⟨hh, rx⟩ := yl x H3 y
        have ww : L2.wipe (L2.wipe σ ws) ws = L2.wipe σ ws := wipe_eq (wipe_length _ _) fun i _ hv => wipe_get hv
        have rl2' := rl2.wipe ws
        rw [ww] at rl2'
        obtain ⟨st3, rl3⟩ := rl2'.heap hh
        have rx' : Rep X.K (Fb (Wx Xs D) M2) H3 x xs[i] := rx.mono fun b z => fb_same.mp z
        have hD3 : H3 D = some (.lst vs) := st3.lst (rl2.dis D (.inr rfl)) hD
        have ra3 := RepL.step st3 ra
        intro ι pins s u I ru
        obtain ⟨g, hg', qg⟩ := (hg ι).ex
        refine hg'.run pins s _ H3 x u _ I ru (qg _ (Wx Xs D) _ H3 _ l3 M2 x _ _ rl3 rx' e1 fun σ3 rl4 kp4 => ?_)
        have hlen : σ3.length = σ.length := by
          rw [rl4.len, bindT_ln _ _ _ _ e1, ← rl3.len, wipe_length]
        have hw3 : L2.wipe σ3 ws = L2.wipe σ ws := wipe_eq hlen fun j hj hv => by
          rw [kp4 j (hpr j (by rw [← hσ]; exact hj) hv), wipe_get hv]
        refine ⟨hw3, fun ι pins s I => ?_⟩
        obtain ⟨tt, htt, qt⟩ := (ht ι).ex
        refine htt.run pins s σ3 H3 _ I (qt (Wx Xs D) σ3 H3 l3 M2 _ rl4 ?_)
        cases e2 : evTs Γ fs l3 with
        | bad => rw [e2] at k2; exact k2.elim
        | exc x l => rw [e2] at k2; exact k2.elim
        | ok r =>
          obtain ⟨b, l4⟩ := r
          rw [e2] at k2
          intro M4 H4 st4 rl5
          have hD4 : H4 D = some (.lst vs) := st4.lst (rl4.dis D (.inr rfl)) hD3
          have ra4 := RepL.step st4 ra3
          have stA := (st2.trans st3.wx).trans st4.wx
          dsimp only [R.bind] at k2 rl5 ⊢
          cases b with
          | false =>
            rw [if_neg Bool.false_ne_true] at k2 ⊢
            have rl6 := rl5.wipe ws
            rw [hw3] at rl6
            exact ⟨M4, l4, acc, vs, stA, rl6, hD4, ra4, shift (show Fin _ _ _ _ _ from k2) (st3.wx.trans st4.wx)⟩
          | true =>
            rw [if_pos rfl] at k2 ⊢
            intro ι pins s I
            obtain ⟨te, hte, qe⟩ := (he ι).ex
            refine hte.run pins s σ3 H4 _ I (qe (Wx Xs D) σ3 H4 l4 M4 _ rl5 ?_)
            cases e3 : evX Γ e' l4 with
            | bad => rw [e3] at k2; exact k2.elim
            | exc x l => rw [e3] at k2; exact k2.elim
            | ok r =>
              obtain ⟨s5, l5⟩ := r
              rw [e3] at k2
              intro M5 H5 st5 rl6 y ry
              dsimp only at k2 rl6 ry
              obtain ⟨M5', hm, rl7, ry'⟩ := RepR.frozen rl6 ry
              have st5' := st5.less hm
              have hD5 : H5 D = some (.lst vs) := st5'.lst (rl5.dis D (.inr rfl)) hD4
              have ra5 := RepL.step st5' ra4
              by_cases hz : acc.length < 16777216
              · rw [if_pos hz] at k2
                have rl8 := (rl7.putX (vs ++ [y])).wipe ws
                rw [hw3] at rl8
                have nf : ∀ b, ¬ Fb (Wx Xs D) M5' b → b ≠ D := fun b n e => n (.inl (.inr e))
                have stP : Step (fun b => M5' b ∨ b = D) H5 (fun b => M5' b ∨ b = D) (upd H5 D (.lst (vs ++ [y]))) := Step.put (.inr rfl) hD5
                refine ⟨vs, hD5, by rw [ra5.length, nat_sl]; exact hz, M5', l5, acc ++ [s5.d], vs ++ [y], (stA.trans st5'.wx).trans stP, rl8, upd_same, ?_, shift (show Fin _ _ _ _ _ from k2) (((st3.wx.trans st4.wx).trans st5'.wx).trans stP)⟩
                have mv : ∀ b u, ¬ Fb (Wx Xs D) M5' b → H5 b = some u → upd H5 D (.lst (vs ++ [y])) b = some u := fun b u n e => by rw [upd_ne (nf b n)]; exact e
                exact RepL.append (RepL.move ra5 mv (fun b z => .inl z)) (RepL.cons (ry'.move mv fun b z => .inl z) RepL.nil)
              · rw [if_neg hz] at k2; exact k2.elim
    · have e : i = xs.length := by omega
      subst e
      refine .inl ⟨J2 (Nat.le_refl _), ?_⟩
      rw [List.drop_length] at k2
      have k2 : ∀ M' H', Step (fun b => M2 b ∨ b = D) H2 M' H' → RepLoc xi.tb X.K Xs M' σ H' (wipeD l2 ws) → ∀ v, RepR X.K Xs M' σ (wipeD l2 ws) H' v (.own acc) → Q v H' := k2
      have rl3 := (rl2.give fun x => nXD (.inl x)).unwipe
      refine k2 _ H2 Step.refl rl3 (.ref D) ⟨D, vs, rfl, .inr rfl, hD, RepL.mono ra fun b z => fb_same.mpr z, fun z => ?_⟩
      -- D stands in no slot
      exact rl2.dis D (.inr rfl) (rl2.unwipe.owd_M z).1
theorem pd_lc_core (hi : PID X W xi tg iter (evI Γ ik ies)) (hg : ∀ i, PGD (blkF X scope i) pr tg t') (ht : ∀ i, PTsD (blkF X scope i) W0 xi ifs (evTs Γ fs)) (he : ∀ i, PD (blkF X scope i) W0 xi elt (evX Γ e')) (hpr : ∀ i, i < X.N.length → i ∉ ws → i ∈ pr) :
    ∃ wi, PI X tg iter wi ∧ ∀ (Xs : Ad) (σ : L2.St) (H : Hp) (l : Loc) (M : Ad) (Q : VK), σ.length = X.N.length → RepLoc xi.tb X.K Xs M σ H l →
      Po ⟨X.K, Xs, W, xi, σ⟩ M H (fun s l' M' H' => ∀ v, RepR X.K Xs M' σ l' H' v s → Q v H') (evX Γ (.comp e' t' ik ies fs ws) l) → tLc wi (wGt (blkF X scope) tg) (wTs (blkF X scope) ifs) (wE (blkF X scope) elt) ws σ H Q := by
  obtain ⟨wi, hwi, qi⟩ := hi.ex
  refine ⟨wi, hwi, fun Xs σ H l M Q hσ r k => ?_⟩
  have e0 : evX Γ (.comp e' t' ik ies fs ws) l = (evI Γ ik ies l).bind fun r => match compL (bindT t') (evTs Γ fs) (evX Γ e') ws r.1 [] (wipeD r.2 ws) with
      | .ok (ds, l1) => .ok (.own ds, l1)
      | _ => .bad := by
    rw [evX.eq_def]
    unfold evI
    dsimp only
    cases evDs Γ ies l with
    | bad => rfl
    | exc x l => rfl
    | ok r =>
      dsimp only [R.bind]
      cases items ik r.1 <;> rfl
  rw [e0] at k
  exact lc_core1 hg ht he hpr hσ (fun R h => qi Xs σ H l M R r h) k
end
end DL

set_option Elab.async false
set_option linter.all false
set_option maxRecDepth 100000
set_option maxHeartbeats 4000000
namespace DL
open PySem PySem.Spec PyProof.Rows L2 GenW

/-! ## generator expressions: the turns -/
def GYc (G : Cx) (CP : List V → List (Addr × Obj) → Prop) (Sl : Value → Shared → Shared → Prop) : Protocol := fun n s₀ v s kap =>
  ∃ ys x cp ip σ H, n + 1 + ys.length = sizeLine ∧ RelV x v ∧ CP ys cp ∧ Inv G (cp ++ ip) σ H s ∧ ∀ s', Sl v s s' → kap (.send .none) s'
def GRc (G : Cx) (CP : List V → List (Addr × Obj) → Prop) (cont : List V → Hp → Prop) : GenEnd := fun n s₀ r s =>
  r = .ok .next ∧ ∃ ys cp σ H, n + ys.length = sizeLine ∧ CP ys cp ∧ Inv G cp σ H s ∧ cont ys H
/-- what the turns are to reach -/
def GTurn (σ : L2.St) (g : TG) (tt : TT) (te : TE) (vs : List Nat) (J : It) (W : Nat → Nat → List V → Hp → Prop) (cont : List V → Hp → Prop) : Prop := ∀ i m ys H, W i m ys H →
  (J.stop i H ∧ cont ys H) ∨ (J.go i H ∧ ∃ Nx : List V → Hp → Prop, (∀ ys' H', Nx ys' H' → ∃ m', m' < m ∧ W (i + 1) m' ys' H') ∧ ∀ x H', J.yld i H x H' → g x (L2.wipe σ vs) H' fun σ2 H2 => L2.wipe σ2 vs = L2.wipe σ vs ∧ tt σ2 H2 fun b H3 =>
    if b = true then te σ2 H3 fun y H4 => ys.length < sizeLine ∧ Nx (ys ++ [y]) H4 else Nx ys H3)
section
variable {G : Cx} {elt tg iter : Expr} {ifs : List Expr} {scope : Scope} {gpos : Pos} {it : Addr} {fp : List Addr} {tn : Nat → Heap → Prop} {J : It} {Aw : Around} {g : TG} {tt : TT} {te : TE} {CP : List V → List (Addr × Obj) → Prop} {Sl : Value → Shared → Shared → Prop} {σ : L2.St} {vs : List Nat}
  {W : Nat → Nat → List V → Hp → Prop} {cont : List V → Hp → Prop}
theorem ge_loop (hcal : G.calm = true) (hxe : G.xe = fun _ _ => False) (hco : G.env.scope.isCoroutine = false) (hov : Aw.over (.compLoop (.GeneratorExp elt [⟨tg, iter, ifs, 0⟩] scope gpos) 0 (.ref it) .none G.env) [] = G.A)
    (T : Turn G.prog G.w G.K tg J fp it tn) (hex : ∀ b ∈ fp, b ∈ G.ex) (hpn : ∀ p ∈ G.pn, p.1 ∉ fp) (hcp : ∀ ys cp, CP ys cp → ∀ p ∈ cp, p.1 ∉ fp) (pg : PG G tg g) (pt : PTs G ifs tt) (pe : PE G elt te)
    (hwk : ∀ ys x v cp ip σ H s s', CP ys cp → Inv G (cp ++ ip) σ H s → (∀ p ∈ ip, p.1 ∈ fp) → RelV x v → Sl v s s' → ∃ cp', CP (ys ++ [x]) cp' ∧ Inv G (cp' ++ ip) σ H s')
    (turn : GTurn σ g tt te vs J W cont) :
    ∀ (m n i : Nat) (ys : List V) (cp : List (Addr × Obj)) (s₀ s : Shared) (H : Hp), n + ys.length = sizeLine → W i m ys H → CP ys cp → Inv G cp (L2.wipe σ vs) H s → tn i s.heap → (∀ b ∈ fp, H b = none) →
      Seg (model G.prog G.w) Aw (GRc G CP cont) (GYc G CP Sl) n s₀ (.compLoop (.GeneratorExp elt [⟨tg, iter, ifs, 0⟩] scope gpos) 0 (.ref it) .none G.env) ((model G.prog G.w).den (.compLoop (.GeneratorExp elt [⟨tg, iter, ifs, 0⟩] scope gpos) 0 (.ref it) .none G.env)) [] s := by
  have stat : ∀ {ys cp} {σ' : L2.St} {H' : Hp} {s' : Shared}, CP ys cp → Inv G cp σ' H' s' → (∀ b ∈ fp, H' b = none) → ∀ b ∈ fp, FpOk G cp H' b := fun {ys cp σ' H' s'} hc I' hn b hb =>
    ⟨hn b hb, (I'.ok.exf b (hex b hb)).1, I'.ok.exfs b (hex b hb), .inl (hex b hb), fun x c e => (I'.ok.exf b (hex b hb)).2 x c e, fun p hp z => by
      rcases List.mem_append.mp hp with hp | hp
      · exact hpn p hp (by rw [z]; exact hb)
      · exact hcp ys cp hc p hp (by rw [z]; exact hb)⟩
  intro m
  induction m using Nat.strongRecOn with
  | ind m ih =>
    intro n i ys cp s₀ s H hn w hc I st nf
    show Seg _ Aw _ _ n s₀ _ ((compTurn (.GeneratorExp elt [⟨tg, iter, ifs, 0⟩] scope gpos) 0 (.ref it) .none G.env).onRaise (leaving G.env)) [] s
    rw [compTurn_gen, Sem.onRaise_eq_wrap]
    refine seg_bind_wrap (wpAny_standAt (seg_bind_wrap ?_))
    rw [hov]
    rcases turn i m ys H w with ⟨stop, q⟩ | ⟨go, Nx, hNx, step⟩
    · refine wpAny_mono (T.done G rfl rfl rfl hcal i cp s _ H (fun _ _ => False) I (stat hc I nf) st stop) (fun r s1 hr => ?_) fun _ _ z => z.elim
      obtain ⟨hr, I1⟩ := hr
      subst hr
      exact seg_end (.ok .next) ⟨rfl, ys, cp, _, H, hn, hc, I1, q⟩
    · refine wpAny_mono (T.item G rfl rfl rfl hcal i cp s _ H (fun _ _ => False) I (stat hc I nf) st go) (fun r s1 hr => ?_) fun _ _ z => z.elim
      obtain ⟨u, hr, h1⟩ := hr
      subst hr
      refine seg_bind_wrap ?_
      rw [hov]
      refine wpAny_mono h1 (fun _ s2 h2 => ?_) fun _ _ z => z.elim
      obtain ⟨x, H2, I2, ru, y2, st2, n2⟩ := h2
      have I2' := I2.pinned (stat hc I2 n2) (T.obj _ _ st2)
      have hip : ∀ p ∈ pinsAt fp s2.heap, p.1 ∈ fp := fun p hp => (of_pinsAt hp).1
      refine seg_bind_wrap ?_
      rw [hov]
      refine wpAny_mono (pg.run _ s2 _ H2 x u _ I2' ru (step x H2 y2)) (fun _ s3 h3 => ?_) fun _ _ z => by rw [hxe] at z; exact z.elim
      obtain ⟨σ3, H3, I3, hw3, q3⟩ := h3
      refine seg_bind_wrap ?_
      rw [hov]
      refine wpAny_mono (pt.run _ s3 σ3 H3 _ I3 q3) (fun b s4 h4 => ?_) fun _ _ z => by rw [hxe] at z; exact z.elim
      obtain ⟨H4, I4, q4⟩ := h4
      -- the turn's end
      have fin : ∀ {ys' : List V} {cp' : List (Addr × Obj)} {s' : Shared} {H' : Hp}, CP ys' cp' → Inv G (cp' ++ pinsAt fp s2.heap) σ3 H' s' → Inv G cp' (L2.wipe σ vs) H' s' ∧ tn (i + 1) s'.heap ∧ ∀ b ∈ fp, H' b = none := fun {ys' cp' s' H'} hc' I' => by
        have pin' : ∀ b ∈ fp, ∀ o, s2.heap.get? b = some o → s'.heap.get? b = some o ∧ H' b = none := fun b hb o e =>
          let z := I'.pin (b, o) (List.mem_append_right _ (List.mem_append_right _ (mem_pinsAt hb e)))
          ⟨z.1, z.2.1⟩
        refine ⟨(I'.unpinned (pins := cp')).weak (by rw [← hw3, wipe_length]) (fun j v e => ?_), T.keep _ _ _ st2 fun b hb o e => (pin' b hb o e).1, fun b hb => ?_⟩
        · rw [← hw3] at e
          exact (wipe_some e).1
        · obtain ⟨o, e, _⟩ := T.obj _ _ st2 b hb
          exact (pin' b hb o e).2
      cases b with
      | false =>
        simp only [Bool.false_eq_true, if_false] at q4 ⊢
        obtain ⟨m', hm, w'⟩ := hNx _ _ q4
        obtain ⟨j1, j2, j3⟩ := fin hc I4
        exact seg_again rfl (ih m' hm n (i + 1) ys cp s₀ s4 H4 hn w' hc j1 j2 j3)
      | true =>
        simp only [if_true] at q4 ⊢
        have hy : ∀ v, yieldOut G.env v = yieldValue v := fun v => by simp only [yieldOut, hco, Bool.false_eq_true, if_false]
        simp only [hy]
        rw [Sem.bind_eq_wrap', Sem.bind_eq_wrap', Sem.wrap_wrap, Sem.wrap_wrap]
        refine seg_wrap ?_
        rw [hov]
        refine wpAny_mono (pe.run _ s4 σ3 H4 _ I4 q4) (fun v s5 h5 => ?_) fun _ _ z => by rw [hxe] at z; exact z.elim
        obtain ⟨yv, H5, I5, rv, hlt, q5⟩ := h5
        obtain ⟨m', hm, w'⟩ := hNx _ _ q5
        obtain ⟨n, rfl⟩ : ∃ k, n = k + 1 := ⟨n - 1, by omega⟩
        refine seg_at (seg_yield rfl rfl rfl ⟨ys, yv, cp, pinsAt fp s2.heap, σ3, H5, hn, rv, hc, I5, fun s'' z => ?_⟩)
        obtain ⟨cp', hc', I6⟩ := hwk ys yv v cp _ σ3 H5 s5 s'' hc I5 hip rv z
        obtain ⟨j1, j2, j3⟩ := fin hc' I6
        exact seg_again rfl (ih m' hm n (i + 1) (ys ++ [yv]) cp' s'' s'' H5 (by rw [List.length_append, List.length_singleton]; omega) w' hc' j1 j2 j3)
end
end DL

set_option Elab.async false
set_option linter.all false
set_option maxRecDepth 100000
set_option maxHeartbeats 4000000
namespace DL
open PySem PySem.Spec PyProof.Rows L2 GenW

/-! ## a generator's frame -/
abbrev cloOf (X : Cx) (scope : Scope) : List (Str × Addr) := cloFrom X.env.cells scope.names []
structure GSc (X : Cx) (scope : Scope) (own : List (Str × Nat)) : Prop where
  ok : BlkOk X.N X.env.scope scope own
  co : scope.isCoroutine = false
  cell : ∀ y ∈ scope.names, y.2 ≠ .cell
  dot : scope.names.lookup (".0" : Str) = some NameKind.local
  dotN : (".0" : Str) ∉ X.N
abbrev genv (X : Cx) (scope : Scope) (C : Addr) (code : Value) (bi : Addr) : PySem.Env := genEnv scope (cloOf X scope) C code bi X.env
abbrev gnx (X : Cx) (sc : Shared) (Hc : Hp) (scope : Scope) (code : Value) (bi : Addr) (A : Around) (fp : List Addr) (pn : List (Addr × Obj)) : Cx :=
  { X with A := A, s_0 := sc, H_0 := Hc, env := genv X scope sc.heap.objs.size code bi, outer := X.stack, stack := genv X scope sc.heap.objs.size code bi :: X.stack, ex := fp, fn := fun x => scope.names.lookup x == some .cell, pn := pn, xe := fun _ _ => False }
section
variable {X : Cx} {scope : Scope} {own : List (Str × Nat)} {pins : List (Addr × Obj)} {σ : L2.St} {H : Hp} {s : Shared}
theorem GSc.has (S : GSc X scope own) (I : Inv X pins σ H s) : ∀ y ∈ scope.names, y.2 = .free → ∃ c, X.env.cells.lookup y.1 = some c := fun y hy e => by
  rcases S.ok.free y hy e with k | k
  · exact I.ok.has _ (.inl k)
  · exact I.ok.has _ (.inr k)
theorem clo_look (S : GSc X scope own) (I : Inv X pins σ H s) {y : Str} {c : Addr} (e : (cloOf X scope).lookup y = some c) : X.env.cells.lookup y = some c ∧ scope.names.lookup y = some .free := by
  rcases cloFrom_mem (PySem.mem_of_lookup e) with h | ⟨h, rfl⟩
  · cases h
  · obtain ⟨c, hc⟩ := S.has I _ h rfl
    exact ⟨by rw [hc]; rfl, S.ok.uniq _ h⟩
theorem clo_free (S : GSc X scope own) (I : Inv X pins σ H s) {y : Str} (e : scope.names.lookup y = some .free) : ∃ c, (cloOf X scope).lookup y = some c := by
  exact mem_lookup (cloFrom_has (cells := X.env.cells) (acc := []) (PySem.mem_of_lookup e))
theorem gnx_inv {code : Value} {bi it : Addr} {A : Around} {fp : List Addr} {pn cp : List (Addr × Obj)} {s2 : Shared} {m : Str → Option Value} (S : GSc X scope own) (I : Inv X pins σ H s) (hN : X.N.Nodup) (hcal : X.calm = true) (hfp : ∀ b ∈ fp, FpOk X pins H b ∧ b < s.heap.objs.size)
    (hh : A.handled = none) (hf : A.frames = some (genv X scope s.heap.objs.size code bi :: X.stack)) (hbi : bi = builtinsNs) (kp : ∀ b o, s.heap.get? b = some o → s2.heap.get? b = some o) (ns : s2.heap.Ns s.heap.objs.size m) (os : s2.os = s.os) (hb : AllBare s2.gens)
    (hpin : ∀ p ∈ pn ++ cp, s2.heap.get? p.1 = some p.2 ∧ s.heap.objs.size < p.1 ∧ ∀ v, p.2.data ≠ .cell v) :
    Inv (gnx X s H scope code bi A fp pn) cp (L2.wipe σ (own.map (·.2))) H s2 := by
  have young : ∀ b, s.heap.objs.size ≤ b → H b = none ∧ b ∉ frs X.stack := fun b hb => ⟨I.hok.fresh hb, fun z => by
    rcases List.mem_cons.mp (I.stkSub b z) with e | e
    · have := I.lt
      rw [← e] at this
      exact absurd (Nat.lt_of_lt_of_le this hb) (Nat.lt_irrefl _)
    · exact I.nofs hb e⟩
  have cl_lt : ∀ y c, (cloOf X scope).lookup y = some c → c < s.heap.objs.size := fun y c e => by
    obtain ⟨w, z⟩ := I.cell y c (clo_look S I e).1
    exact z.lt
  refine ⟨⟨I.ok.mod, S.ok.kind, I.ok.glob, hbi, Nat.le_refl _, fun x y c e1 e2 => I.ok.inj x y c (clo_look S I e1).1 (clo_look S I e2).1, fun y hy => ?_, fun y c e _ => ?_, fun _ => hh, hf, .inr ⟨rfl, rfl⟩, fun b hb => ?_, I.bs, Nat.le_trans I.ok.bsz I.sz, fun b o e hb => ?_, fun b hb z => ?_, I.stack, I.stkFree⟩,
    os, hb, Un.kept kp, ⟨m, ns, fun i x v e1 e2 e3 => ?_⟩, fun y c e => ?_, (young _ (Nat.le_refl _)).1, fun y c e => ?_, fun p hp => ?_, I.hok.kept kp, by rw [wipe_length]; exact I.len⟩
  · have hy : scope.names.lookup y = some .cell ∨ scope.names.lookup y = some .free := hy
    rcases hy with hy | hy
    · exact absurd rfl (S.cell _ (PySem.mem_of_lookup hy))
    · exact clo_free S I hy
  · have e : (scope.names.lookup y == some NameKind.cell) = true := e
    have e : scope.names.lookup y = some .cell := by simpa using e
    exact absurd rfl (S.cell _ (PySem.mem_of_lookup e))
  · refine ⟨Nat.ne_of_lt (hfp b hb).2, fun y c e z => ?_⟩
    exact (hfp b hb).1.2.2.2.2.1 y c (clo_look S I e).1 z
  · rcases (hfp b hb).1.2.2.2.1 with z | z
    · exact I.ok.noex b o e z
    · exact absurd (Nat.lt_of_lt_of_le (Heap.lt_size e) (Nat.le_trans I.ok.bsz z)) (Nat.lt_irrefl _)
  · rcases List.mem_cons.mp (I.stkSub b z) with z | z
    · exact (hfp b hb).1.2.1 z
    · exact (hfp b hb).1.2.2.1 z
  · obtain ⟨e2, hne⟩ := wipe_some e2
    have e3 : scope.names.lookup x = some .local ∨ scope.names.lookup x = some .cell ∨ scope.names.lookup x = some .free := e3
    have no : ∀ k, scope.names.lookup x = some k → k = .local ∨ k = .cell → False := fun k hk hh => by
      rcases S.ok.own _ (PySem.mem_of_lookup hk) hh with e' | e'
      · obtain ⟨p, hp, hpx⟩ := List.mem_map.mp e'
        have e5 := S.ok.ix p hp
        have : p.1 = x := hpx
        rw [this] at e5
        exact hne (List.mem_map.mpr ⟨p, hp, nodup_ix hN e5 e1⟩)
      · exact e' (List.mem_of_getElem? e1)
    rcases e3 with k | k | k
    · exact (no _ k (.inl rfl)).elim
    · exact (no _ k (.inr rfl)).elim
    · have hv : Vis X.env.scope x := (S.ok.free _ (PySem.mem_of_lookup k) rfl).elim (fun z => .inr (.inl z)) (fun z => .inr (.inr z))
      obtain ⟨m0, hm0, hl⟩ := I.loc
      obtain ⟨u, ru, q⟩ := hl i x v e1 e2 hv
      obtain ⟨c, hc⟩ := clo_free S I k
      refine ⟨u, ru, .inr ⟨.inr k, c, hc, ?_⟩⟩
      rcases q with ⟨k', _⟩ | ⟨_, c', e', z⟩
      · have k' : X.env.scope.names.lookup x = some .local := k'
        rcases S.ok.free _ (PySem.mem_of_lookup k) rfl with z | z <;> rw [show X.env.scope.names.lookup x = _ from z] at k' <;> cases k'
      · rw [(clo_look S I hc).1] at e'
        cases e'
        exact z.keeps kp
  · obtain ⟨w, z⟩ := I.cell y c (clo_look S I e).1
    exact ⟨w, z.keeps kp⟩
  · exact I.freeC y c (clo_look S I e).1
  · obtain ⟨h1, h2, h3⟩ := hpin p hp
    exact ⟨h1, (young p.1 (Nat.le_of_lt h2)).1, Nat.ne_of_gt h2, (young p.1 (Nat.le_of_lt h2)).2, h3⟩
end
end DL

set_option Elab.async false
set_option linter.all false
set_option maxRecDepth 100000
set_option maxHeartbeats 4000000
namespace DL
open PySem PySem.Spec PyProof.Rows L2 GenW GxR

/-! ## a generator expression's value -/
abbrev geC (elt tg iter : Expr) (ifs : List Expr) (scope : Scope) (gpos : Pos) : Expr := .GeneratorExp elt [⟨tg, iter, ifs, 0⟩] scope gpos
structure GeMade (X : Cx) (pins : List (Addr × Obj)) (σ : L2.St) (elt tg iter : Expr) (ifs : List Expr) (scope : Scope) (gpos : Pos) (J : It) (fp : List Addr) (it : Addr) (tn : Nat → Heap → Prop) (code : Value) (H : Hp) (sc s5 : Shared) (a : Addr) (g : Nat) (go : Obj) : Prop where
  I : Inv X pins σ H sc
  T : Turn X.prog X.w X.K tg J fp it tn
  st : tn 0 sc.heap
  ff : ∀ b ∈ fp, FpOk X pins H b ∧ b < sc.heap.objs.size
  lo : sc.heap.objs.size < a
  hi : a < s5.heap.objs.size
  gen : ∀ h : Heap, h.get? a = some go → h.IsGen a g
  at_ : s5.heap.get? a = some go
  nc : ∀ v, go.data ≠ .cell v
  gs : s5.gens[g]? = some (.fresh (.compStart (geC elt tg iter ifs scope gpos) 0 (.ref it) .none (genv X scope sc.heap.objs.size code builtinsNs)))
  os : s5.os = sc.os
  bare : AllBare s5.gens
  nl : s5.heap.NoLimit
  kp : ∀ b o, sc.heap.get? b = some o → s5.heap.get? b = some o
  ns : ∃ m, s5.heap.Ns sc.heap.objs.size m
section
variable {X : Cx} {pins : List (Addr × Obj)} {σ : L2.St} {H : Hp} {s : Shared} {elt tg iter : Expr} {ifs : List Expr} {scope : Scope} {own : List (Str × Nat)} {gpos : Pos} {c P : Addr} {wi : TI} {R : It → Hp → Prop} {Q' : Value → Shared → Prop} {k : Nat}
theorem ge_eval (hr : Room k X.A) (TB : TabB X.base X.mg c P) (hcode : X.env.code = .ref c) (S : GSc X scope own) (hi : PI X tg iter wi) (hs : ∀ v, genFold iter X.env v = pure v) (I : Inv X pins σ H s)
    (h : wi σ H fun J H1 => TabG H1 P ∧ ∀ H2, Tabbed P H1 H2 → R J H2)
    (hQ : ∀ J H2 fp it tn code sc s5 a g go, GeMade X pins σ elt tg iter ifs scope gpos J fp it tn code H2 sc s5 a g go → R J H2 → Q' (.ref a) s5) :
    wpAny (model X.prog X.w) X.A (eval (geC elt tg iter ifs scope gpos) X.env) Q' X.xe s := by
  refine wpAny_GeneratorExp_make S.co (closure_ok (S.has I)) S.cell S.dot S.ok.kind (by have := hr.dp; omega) ?_ hs
  refine thn (hi.run pins s σ H _ I h) fun xv s1 hx => thn hx fun itv s2 h2 => ?_
  obtain ⟨it, fp, tn, J, H2, rfl, I2, T, st2, f2, ⟨ps, hP, ht⟩, q⟩ := h2
  refine ⟨I2.nolimit, ?_⟩
  have hPs : s2.heap.get? P = some { cls := .none, data := .fields ps } := I2.hok P _ hP
  have hPlt : P < s2.heap.objs.size := Heap.lt_size hPs
  have cd : PySem.W.CodeHd s2.heap c P := TB.code.keeps fun b u e => I2.bk b u e
  have hcP : cStatics ≠ P := fun e => by
    obtain ⟨_, hns, _⟩ := I2.nolimit
    obtain ⟨o', es, ep, ho, hd, _⟩ := hns
    rw [e, hPs] at ho
    cases ho
    cases hd
  have fpP : ∀ b ∈ fp, b ≠ P := fun b hb e => by
    have := (f2 b hb).1
    rw [e, hP] at this; cases this
  have fin : ∀ (code : Value) (h3 : Heap) (tk : Nat) (more : Array Value), Heap.ExtBut P s2.heap h3 → s2.heap.objs.size ≤ h3.objs.size → h3.get? P = some { cls := .none, data := .fields (ps ++ more) } → TriplesOk (ps ++ more).toList →
      wpAny (model X.prog X.w) X.A (builtinsFor X.env.globals X.env.builtins) (fun bi s₄ =>
        ∀ h', h'.Ns s₄.heap.objs.size (fun y => if y = ".0" then some (.ref it) else none) → Heap.SameBut s₄.heap.objs.size (s₄.heap.push { cls := .type "frame", data := .dict #[] }) h' →
          Q' (.ref h'.objs.size) { s₄ with
            gens := s₄.gens.push (.fresh (.compStart (.GeneratorExp elt [⟨tg, iter, ifs, 0⟩] scope gpos) 0 (.ref it) .none (genEnv scope (cloFrom X.env.cells scope.names []) s₄.heap.objs.size code bi X.env))),
            toks := s₄.toks + 1 + 1 + 1,
            heap := h'.push { cls := .type "generator", data := .fields #[.int s₄.gens.size 0, .str "<genexpr>" (s₄.toks + 1), .str (X.env.qual ++ "<genexpr>") (s₄.toks + 1 + 1)] } }) X.xe { s2 with heap := h3, toks := tk } := by
    intro code h3 tk more hx hsz hP3 ht3
    obtain ⟨bm, ob, e1, e2, e3, e4, e5, e6, e7, e8⟩ := TB.bm
    have keep3 : ∀ b u, b ≠ P → s2.heap.get? b = some u → h3.get? b = some u := fun b u hb e => hx b u hb e
    have J3 := inv_tab (more := more) (h' := h3) (g' := s2.gens) (d' := s2.drawn) (t' := tk) I2 hP keep3 hP3 I2.bare
    have J3 : Inv X pins σ (upd H2 P (.tbl (ps ++ more))) { s2 with heap := h3, toks := tk } := J3
    refine wpAny_builtinsFor (m := X.mg) (by rw [I2.ok.glob]; exact (I2.mod.glob.keeps I2.bk).extBut hx TB.gP) e1 e2 (keep3 _ _ e4 (I2.bk _ _ e5)) e6 e7 e8 ?_
    intro h' hns hsb
    have hsz' : h'.objs.size = h3.objs.size + 1 := by
      have := hsb.1
      rw [this]; exact Heap.size_push ..
    have kp' : ∀ b o, h3.get? b = some o → h'.get? b = some o := fun b o e => hsb.extBut b o (Nat.ne_of_lt (Heap.lt_size e)) (Heap.get?_push_of_some _ e)
    have l1 : h3.objs.size < h'.objs.size := by rw [hsz']; exact Nat.lt_succ_self _
    have ff : ∀ b ∈ fp, FpOk X pins (upd H2 P (.tbl (ps ++ more))) b ∧ b < h3.objs.size := fun b hb => by
      obtain ⟨o, e, _⟩ := T.obj _ _ st2 b hb
      refine ⟨⟨by rw [upd_ne (fpP b hb)]; exact (f2 b hb).1, (f2 b hb).2⟩, ?_⟩
      exact Nat.lt_of_lt_of_le (Heap.lt_size e) hsz
    generalize hgo : ({ cls := .type "generator", data := .fields #[.int s2.gens.size 0, .str "<genexpr>" (tk + 1), .str (X.env.qual ++ "<genexpr>") (tk + 1 + 1)] } : Obj) = go
    have l2 : h'.objs.size < (h'.push go).objs.size := by rw [Heap.size_push]; exact Nat.lt_succ_self _
    have hat : (h'.push go).get? h'.objs.size = some go := by rw [← hgo]; exact Heap.get?_push_size _ rfl
    have hgen : ∀ h : Heap, h.get? h'.objs.size = some go → h.IsGen h'.objs.size s2.gens.size := fun h e => ⟨go, _, _, e, by rw [← hgo], by rw [← hgo], by rw [← hgo]⟩
    have hnc : ∀ v, go.data ≠ .cell v := fun v z => by
      rw [← hgo] at z
      cases z
    have kp2 : ∀ b o, h3.get? b = some o → (h'.push go).get? b = some o := fun b o e => Heap.get?_push_of_some _ (kp' b o e)
    have nl : (h'.push go).NoLimit := (I2.nolimit.extBut hx hcP).keeps kp2
    have st3 : tn 0 h3 := T.keep _ _ _ st2 fun b hb o e => keep3 b o (fpP b hb) e
    have R2 : R J (upd H2 P (.tbl (ps ++ more))) := q _ ⟨⟨ps ++ more, upd_same, ht3⟩, fun b hb => upd_ne hb⟩
    exact hQ J (upd H2 P (.tbl (ps ++ more))) fp it tn code { s2 with heap := h3, toks := tk } _ h'.objs.size s2.gens.size go
      { I := J3, T := T, st := st3, ff := ff, lo := l1, hi := l2, gen := hgen, at_ := hat, nc := hnc, gs := Array.getElem?_push_size .., os := rfl, bare := I2.bare.push rfl, nl := nl, kp := kp2, ns := ⟨_, hns.push _⟩ } R2
  cases hf : codeAmong gpos ps.toList with
  | none =>
    refine wpAny_genexprCodeX hcode (cd.code hPs ht) (cd.tab hPs) hf fun c' h' tk hx hge hlt hco' _ htab' _ => ?_
    obtain ⟨o1, vs, f1, tf, fl, tg', inF, tx, tt, op, _, _, _, _, _, _, _, _, _, htr, _⟩ := hco'
    exact fin _ h' tk _ hx (Nat.le_trans hge (Nat.le_of_lt hlt)) htab'.2 htr
  | some cv =>
    refine wpAny_genexprCode_hit hcode (cd.code hPs ht) hf ?_
    have e0 : ps ++ (#[] : Array Value) = ps := by simp
    exact fin cv s2.heap s2.toks #[] (Heap.ExtBut.refl _ _) (Nat.le_refl _) (by rw [e0]; exact hPs) (by rw [e0]; exact ht)
end
end DL

set_option Elab.async false
set_option linter.all false
set_option maxRecDepth 100000
set_option maxHeartbeats 4000000
namespace DL
open PySem PySem.Spec PyProof.Rows L2 GenW GxR

/-! ## .. woken -/
/-- the contexts of a generator's frame -/
structure GIx (k : Nat) where
  sc : Shared
  Hc : Hp
  code : Value
  A : Around
  fp : List Addr
  pn : List (Addr × Obj)
  room : Room k A
abbrev gnF (X : Cx) (scope : Scope) {k : Nat} (i : GIx k) : Cx := gnx X i.sc i.Hc scope i.code builtinsNs i.A i.fp i.pn
abbrev lpC (elt tg iter : Expr) (ifs : List Expr) (scope : Scope) (gpos : Pos) (it : Addr) (env : PySem.Env) : Code := .compLoop (geC elt tg iter ifs scope gpos) 0 (.ref it) .none env
abbrev stC (elt tg iter : Expr) (ifs : List Expr) (scope : Scope) (gpos : Pos) (it : Addr) (env : PySem.Env) : Code := .compStart (geC elt tg iter ifs scope gpos) 0 (.ref it) .none env
section
variable {elt tg iter : Expr} {ifs : List Expr} {scope : Scope} {gpos : Pos} {it : Addr} {env : PySem.Env} {A : Around} {k : Nat}
theorem over_st : A.over (stC elt tg iter ifs scope gpos it env) [] = A.over (lpC elt tg iter ifs scope gpos it env) [] := rfl
theorem over_room (r : Room (k + 1) A) : Room k (A.over (lpC elt tg iter ifs scope gpos it env) []) := by
  have e1 : (A.over (lpC elt tg iter ifs scope gpos it env) []).depth = A.depth + 1 := rfl
  have e2 : (A.over (lpC elt tg iter ifs scope gpos it env) []).units = A.units + 3 := rfl
  refine ⟨r.hd, ?_, ?_⟩
  · rw [e1]; have := r.dp; omega
  · rw [e2]; have := r.un; omega
theorem over_frames {l : List PySem.Env} (h : A.frames = some l) : (A.over (lpC elt tg iter ifs scope gpos it env) []).frames = some (env :: l) := by
  show pushEnvs [env] (pushEnvs [] A.frames) = _
  rw [pushEnvs_eq, pushEnvs_eq, h]
  rfl
end
section
variable {X : Cx} {pins : List (Addr × Obj)} {σ : L2.St} {H : Hp} {elt tg iter : Expr} {ifs : List Expr} {scope : Scope} {own : List (Str × Nat)} {gpos : Pos} {k : Nat} {J : It} {fp : List Addr} {it : Addr} {tn : Nat → Heap → Prop} {code : Value} {sc s5 : Shared} {a : Addr} {g : Nat} {go : Obj}
  {CP : List V → List (Addr × Obj) → Prop} {Sl : Value → Shared → Shared → Prop} {gt : TG} {tt : TT} {te : TE} {W : Nat → Nat → List V → Hp → Prop} {cont : List V → Hp → Prop}
/-- the frame's context -/
abbrev geX (X : Cx) (elt tg iter : Expr) (ifs : List Expr) (scope : Scope) (gpos : Pos) (it : Addr) (code : Value) (H : Hp) (sc : Shared) (fp : List Addr) (a : Addr) (go : Obj) (Aw : Around) : Cx :=
  gnx X sc H scope code builtinsNs (Aw.over (lpC elt tg iter ifs scope gpos it (genv X scope sc.heap.objs.size code builtinsNs)) []) fp [(a, go)]
theorem ge_wake (M : GeMade X pins σ elt tg iter ifs scope gpos J fp it tn code H sc s5 a g go) (S : GSc X scope own) (hN : X.N.Nodup) (hcal : X.calm = true)
    (pg : ∀ i : GIx k, PG (gnF X scope i) tg gt) (pt : ∀ i : GIx k, PTs (gnF X scope i) ifs tt) (pe : ∀ i : GIx k, PE (gnF X scope i) elt te)
    (turn : GTurn σ gt tt te (own.map (·.2)) J W cont) {m0 : Nat} (w0 : W 0 m0 [] H) {Aw : Around} (hrw : Room (k + 1) Aw) (hfr : Aw.frames = some X.stack) {s2 : Shared} (kp2 : ∀ b o, s5.heap.get? b = some o → s2.heap.get? b = some o) (os2 : s2.os = s5.os) (hb2 : AllBare s2.gens)
    (hcp : ∀ ys cp, CP ys cp → ∀ p ∈ cp, p.1 ∉ fp) {cp0 : List (Addr × Obj)} (hc0 : CP [] cp0) (hat : ∀ p ∈ cp0, s2.heap.get? p.1 = some p.2 ∧ sc.heap.objs.size < p.1 ∧ ∀ v, p.2.data ≠ .cell v)
    (hwk : ∀ ys x v cp ip σ' H' s s', CP ys cp → Inv (geX X elt tg iter ifs scope gpos it code H sc fp a go Aw) (cp ++ ip) σ' H' s → (∀ p ∈ ip, p.1 ∈ fp) → RelV x v → Sl v s s' → ∃ cp', CP (ys ++ [x]) cp' ∧ Inv (geX X elt tg iter ifs scope gpos it code H sc fp a go Aw) (cp' ++ ip) σ' H' s') :
    Seg (model X.prog X.w) Aw (GRc (geX X elt tg iter ifs scope gpos it code H sc fp a go Aw) CP cont) (GYc (geX X elt tg iter ifs scope gpos it code H sc fp a go Aw) CP Sl) sizeLine s2
      (stC elt tg iter ifs scope gpos it (genv X scope sc.heap.objs.size code builtinsNs)) ((model X.prog X.w).den (stC elt tg iter ifs scope gpos it (genv X scope sc.heap.objs.size code builtinsNs))) [] s2 := by
  obtain ⟨m, hns⟩ := M.ns
  have kp : ∀ b o, sc.heap.get? b = some o → s2.heap.get? b = some o := fun b o e => kp2 b o (M.kp b o e)
  have hA : Room k (Aw.over (lpC elt tg iter ifs scope gpos it (genv X scope sc.heap.objs.size code builtinsNs)) []) := over_room hrw
  have I0 : Inv (geX X elt tg iter ifs scope gpos it code H sc fp a go Aw) cp0 (L2.wipe σ (own.map (·.2))) H s2 := by
    refine gnx_inv (it := it) S M.I hN hcal M.ff hA.hd (over_frames hfr) rfl kp (hns.at' fun o e => kp2 _ o e) (os2.trans M.os) hb2 fun p hp => ?_
    rcases List.mem_append.mp hp with z | z
    · rw [List.mem_singleton.mp z]
      exact ⟨kp2 _ _ M.at_, M.lo, M.nc⟩
    · exact hat p z
  have st0 : tn 0 s2.heap := M.T.keep _ _ _ M.st fun b _ o e => kp b o e
  have nf : ∀ b ∈ fp, H b = none := fun b hb => (M.ff b hb).1.1
  let i0 : GIx k := ⟨sc, H, code, _, fp, [(a, go)], hA⟩
  have hpn : ∀ p ∈ (geX X elt tg iter ifs scope gpos it code H sc fp a go Aw).pn, p.1 ∉ fp := fun p hp hb => by
    have hp : p ∈ [(a, go)] := hp
    rw [List.mem_singleton.mp hp] at hb
    have := (M.ff a hb).2
    exact absurd M.lo (Nat.lt_asymm this)
  have loop := fun s₀ => ge_loop (G := geX X elt tg iter ifs scope gpos it code H sc fp a go Aw) (Aw := Aw) (scope := scope) (gpos := gpos) (iter := iter) hcal rfl S.co rfl M.T (fun b hb => hb) hpn hcp (pg i0) (pt i0) (pe i0) hwk turn m0 sizeLine 0 [] cp0 s₀ s2 H (Nat.add_zero _) w0 hc0 I0 st0 nf
  show Seg _ Aw _ _ _ s2 _ ((compStart (geC elt tg iter ifs scope gpos) 0 (.ref it) .none (genv X scope sc.heap.objs.size code builtinsNs)).onRaise (leaving (genv X scope sc.heap.objs.size code builtinsNs))) [] s2
  unfold compStart
  rw [Sem.onRaise_eq_wrap]
  show Seg _ Aw _ _ _ s2 _ ((ask >>= _).wrap _ _ _ _) [] s2
  refine seg_bind_wrap (wpAny_askSetting ?_)
  split
  · exact seg_again rfl (loop s2)
  · first
      | exact seg_bind_wrap (wpAny_rule (seg_bind_wrap (wpAny_standAt (seg_bind_wrap (M.T.self _ 0 s2 _ _ st0 (seg_again rfl (loop s2)))))))
      | (refine seg_bind_wrap (wpAny_rule ?_); show Seg _ Aw _ _ _ s2 _ ((standAt iter.pos >>= _).wrap _ _ _ _) [] s2; exact seg_bind_wrap (wpAny_standAt (seg_bind_wrap (M.T.self _ 0 s2 _ _ st0 (seg_again rfl (loop s2))))))
end
end DL

set_option Elab.async false
set_option linter.all false
set_option maxRecDepth 100000
set_option maxHeartbeats 4000000
namespace DL
open PySem PySem.Spec PyProof.Rows L2 GenW GxR

/-! ## its items put into a list -/
def CPl (S : Addr) : List V → List (Addr × Obj) → Prop := fun ys cp => ∃ (acc : Array Value) (c : Nat), Vals ys acc.toList ∧ cp = [(S, lstObj acc c)]
section
variable {X : Cx} {pins : List (Addr × Obj)} {σ : L2.St} {H : Hp} {elt tg iter : Expr} {ifs : List Expr} {scope : Scope} {own : List (Str × Nat)} {gpos : Pos} {k : Nat} {J : It} {fp : List Addr} {it : Addr} {tn : Nat → Heap → Prop} {code : Value} {sc s5 : Shared} {a : Addr} {g : Nat} {go : Obj}
  {gt : TG} {tt : TT} {te : TE} {W : Nat → Nat → List V → Hp → Prop} {cont : List V → Hp → Prop} {E : XK}
theorem ge_list (M : GeMade X pins σ elt tg iter ifs scope gpos J fp it tn code H sc s5 a g go) (S : GSc X scope own) (hN : X.N.Nodup) (hcal : X.calm = true)
    (pg : ∀ i : GIx k, PG (gnF X scope i) tg gt) (pt : ∀ i : GIx k, PTs (gnF X scope i) ifs tt) (pe : ∀ i : GIx k, PE (gnF X scope i) elt te)
    (turn : GTurn σ gt tt te (own.map (·.2)) J W cont) {m0 : Nat} (w0 : W 0 m0 [] H) : GMade X.prog X.w (k + 1) X.stack H sc fp cont E (.ref a) s5 := by
  refine ⟨a, g, _, rfl, Nat.le_of_lt M.lo, M.hi, M.gen _ M.at_, M.gs, M.os, M.bare, M.nl, M.kp, fun Aw S2 s2 hrw hfr hS hk hSo hos hba => ?_⟩
  obtain ⟨c0, hS0⟩ := hSo
  have haS : a < S2 := Nat.lt_of_lt_of_le M.hi hS
  have hSs : sc.heap.objs.size < S2 := Nat.lt_trans M.lo haS
  have hSf : S2 ∉ fp := fun hb => absurd (M.ff S2 hb).2 (Nat.lt_asymm hSs)
  have cl_lt : ∀ y c, (cloOf X scope).lookup y = some c → c < sc.heap.objs.size := fun y c e => by
    obtain ⟨w, z⟩ := M.I.cell y c (clo_look S M.I e).1
    exact z.lt
  have hpnS : ∀ p ∈ [(a, go)], p.1 ≠ S2 := fun p hp => by
    rw [List.mem_singleton.mp hp]
    exact Nat.ne_of_lt haS
  refine seg_imp (R := GRc (geX X elt tg iter ifs scope gpos it code H sc fp a go Aw) (CPl S2) cont) (Y := GYc (geX X elt tg iter ifs scope gpos it code H sc fp a go Aw) (CPl S2) (Slept S2)) (fun n s₀ r s1 hR => ?_) (fun n s₀ v s1 kap kap' hkk hY => ?_) sizeLine ?_
  · obtain ⟨rfl, ys, cp, σ', H', hn, ⟨acc, c, ra, rfl⟩, J', hc⟩ := hR
    obtain ⟨e1, e2, _⟩ := J'.pin (S2, lstObj acc c) (List.mem_append_right _ (List.mem_singleton.mpr rfl))
    exact .inl ⟨.inr rfl, H', ys, acc, c, J'.os, J'.bare, J'.base, J'.hok, e2, e1, ra, by omega, hc⟩
  · obtain ⟨ys, x, cp, ip, σ', H', hn, rv, ⟨acc, c, ra, rfl⟩, J', hs⟩ := hY
    have e1 := (J'.pin (S2, lstObj acc c) (List.mem_append_right _ (List.mem_append_left _ (List.mem_singleton.mpr rfl)))).1
    have e2 := (J'.pin (a, go) (List.mem_append_left _ (List.mem_singleton.mpr rfl))).1
    have hsz : acc.size = ys.length := by
      have h1 := ra.length
      have h2 : acc.toList.length = acc.size := by simp
      omega
    exact ⟨J'.os, J'.bare, J'.nolimit, M.gen _ e2, ⟨acc, c, e1, by rw [hsz]; exact hn⟩, fun s' z => hkk _ _ (hs s' z)⟩
  · refine ge_wake M S hN hcal pg pt pe turn w0 hrw hfr hk (hos.trans M.os.symm) hba (fun ys cp hc p hp => ?_) (cp0 := [(S2, lstObj #[] c0)]) ⟨#[], c0, .nil, rfl⟩ (fun p hp => ?_) (fun ys x v cp ip σ' H' s s' hc J' hip rv z => ?_)
    · obtain ⟨acc, c, _, rfl⟩ := hc
      rw [List.mem_singleton.mp hp]; exact hSf
    · rw [List.mem_singleton.mp hp]
      exact ⟨hS0, hSs, fun v z => by cases z⟩
    · obtain ⟨acc, c, ra, rfl⟩ := hc
      have G1 : GI (geX X elt tg iter ifs scope gpos it code H sc fp a go Aw) S2 ip ys σ' H' s := ⟨acc, c, ra, J'⟩
      have G2 := G1.woken hpnS (fun p hp e => hSf (by rw [← e]; exact hip p hp)) ⟨Nat.le_of_lt hSs, Nat.ne_of_gt hSs, fun y c e => Nat.ne_of_lt (Nat.lt_trans (cl_lt y c e) hSs)⟩ rv z
      obtain ⟨acc', c', ra', J2⟩ := G2
      exact ⟨_, ⟨acc', c', ra', rfl⟩, J2⟩
/-- what the elements come to -/
def tGe (P : Addr) (wi : TI) (gt : TG) (tt : TT) (te : TE) (vs : List Nat) : TGen := fun σ H cont => wi σ H fun J H1 => TabG H1 P ∧ ∀ H2, Tabbed P H1 H2 → ∃ W : Nat → Nat → List V → Hp → Prop, (∃ m, W 0 m [] H2) ∧ GTurn σ gt tt te vs J W cont
theorem pgen_ge {c P : Addr} {wi : TI} {kr : Nat} (hr : Room kr X.A) (TB : TabB X.base X.mg c P) (hcode : X.env.code = .ref c) (S : GSc X scope own) (hi : PI X tg iter wi) (hs : ∀ v, genFold iter X.env v = pure v) (hN : X.N.Nodup) (hcal : X.calm = true)
    (pg : ∀ i : GIx k, PG (gnF X scope i) tg gt) (pt : ∀ i : GIx k, PTs (gnF X scope i) ifs tt) (pe : ∀ i : GIx k, PE (gnF X scope i) elt te) :
    PGen X (k + 1) (geC elt tg iter ifs scope gpos) (tGe P wi gt tt te (own.map (·.2))) E := by
  refine ⟨fun pins s σ H cont I h => ?_⟩
  refine ge_eval hr TB hcode S hi hs I h fun J H2 fp it tn code sc s5 a g go M q => ?_
  obtain ⟨W, ⟨m0, w0⟩, turn⟩ := q
  exact ⟨H2, sc, fp, M.I, fun b hb => ⟨(M.ff b hb).1.2.2.2.1, (M.ff b hb).1.2.1, (M.ff b hb).1.2.2.2.2.1, (M.ff b hb).1.2.2.2.2.2⟩, ge_list M S hN hcal pg pt pe turn w0⟩
end
end DL

set_option Elab.async false
set_option linter.all false
set_option maxRecDepth 100000
set_option maxHeartbeats 4000000
namespace DL
open PySem PySem.Spec PyProof.Rows L2 GenW GxR

/-! ## tuple of a generator -/
abbrev noX : XK := fun _ _ _ => False
theorem noX_cx {P : Program} {w : World} {outer : List PySem.Env} {H : Hp} {s : Shared} {e : Value} {s' : Shared} (h : L2.CX P w outer H s noX e s') : False := by
  obtain ⟨_, _, _, _, _, _, _, _, _, _, _, _, z⟩ := h
  exact z
section
variable {P : Program} {w : World} {outer : List PySem.Env} {H : Hp} {sc s : Shared} {ex : List Addr} {Z : List V → Hp → Prop} {A : Around} {k : Nat} {u : Value} {E : Value → Shared → Prop}
abbrev Drained (P : Program) (w : World) (outer : List PySem.Env) (H : Hp) (sc : Shared) (ex : List Addr) (Z : List V → Hp → Prop) (s : Shared) (S : Addr) (s' : Shared) (acc : Array Value) : Prop :=
  ∃ c H' ys, s.heap.objs.size ≤ S ∧ s'.heap.get? S = some (lstObj acc c) ∧ Vals ys acc.toList ∧ ys.length ≤ sizeLine ∧ s'.os = sc.os ∧ AllBare s'.gens ∧ Un (frs outer) ex H H' sc.heap s'.heap ∧ HOk P w H' s'.heap ∧ H' S = none ∧ Z ys H'
theorem collect_gm {Q : List Value → Shared → Prop} (hr : Room (k + 3) A) (hfr : A.frames = some outer) (h : GMade P w k outer H sc ex Z noX u s) (hQ : ∀ S s' acc, Drained P w outer H sc ex Z s S s' acc → Q acc.toList s') :
    wpAny (model P w) A (collect u) Q E s := by
  obtain ⟨a, g, cd, rfl, ha1, ha2, hg, hgs, hos, hb, hl, hkp, wake⟩ := h
  have nSa : s.heap.objs.size ≠ a := Nat.ne_of_gt ha2
  have nSc : s.heap.objs.size ≠ cStatics := Nat.ne_of_gt (let ⟨_, hn, _⟩ := hl; hn.lt)
  unfold collect
  refine wpAny_bind (wpAny_runValue (codeAny_builtin F.entry_proto_collect ?_))
  rw [Around.under_plainId F.plain_proto_collect _]
  show wpAny _ A.in1 (newList [] >>= fun L => again (.builtin "list.__iadd__" ⟨[L, .ref a], []⟩)) _ _ s
  refine wpAny_bind (wpAny_newObj_type (wpAny_pure ⟨plainId_quiet F.plain_list_iadd _, codeAny_builtin F.entry_list_iadd ?_⟩))
  rw [Around.under_plainId F.plain_list_iadd _]
  have k1 : ∀ b o, s.heap.get? b = some o → (s.heap.push { cls := .type "list", data := .seq #[] }).get? b = some o := fun b o e => Heap.get?_push_of_some _ e
  have up : ∀ (hh : Heap) (f : Obj → Obj), (∀ b o, s.heap.get? b = some o → hh.get? b = some o) → ∀ b o, s.heap.get? b = some o → (hh.update s.heap.objs.size f).get? b = some o := fun hh f q b o e =>
    (Heap.get?_update_other _ _ (Nat.ne_of_gt (Heap.lt_size e))).trans (q b o e)
  have gk : ∀ {hh : Heap}, (∀ b o, s.heap.get? b = some o → hh.get? b = some o) → hh.IsGen a g := fun {hh} q => hg.keeps q
  show wpAny _ A.in1 (Builtin.List.listExtendWith (.ref s.heap.objs.size) (.ref a) (.ref s.heap.objs.size)) _ _ _
  unfold Builtin.List.listExtendWith
  refine wpAny_bind (wpAny_typeOf (Heap.IsGen.typeIs (s := { s with heap := _ }) (gk k1)) ?_)
  have q1 : Builtin.List.listSameRef (.ref s.heap.objs.size) (.ref a) = false := by simp [Builtin.List.listSameRef, nSa]
  have q2 : (Value.type "generator" == Value.type "list") = false ∧ (Value.type "generator" == Value.type "tuple") = false := by decide
  simp only [q1, q2.1, q2.2, Bool.or_false, Bool.false_eq_true, if_false]
  refine wpAny_bind (wpAny_pyIter_gen (s := { s with heap := _ }) (gk k1) (wpAny_bind (wpAny_holding ?_)))
  unfold Builtin.List.listLengthHint
  refine wpAny_bind (wpAny_specialOf (Heap.IsGen.typeIs (s := { s with heap := _ }) (gk k1)) F.gen_no_len ?_)
  show wpAny _ A.in1 (specialOf (Value.ref a) (Str.ofString "__length_hint__") >>= _) _ _ _
  refine wpAny_bind (wpAny_specialOf (Heap.IsGen.typeIs (s := { s with heap := _ }) (gk k1)) F.gen_no_hint (wpAny_pure ?_))
  show wpAny _ A.in1 (rule "list.extend.makes-room" >>= fun _ => Builtin.List.listTouch (.ref s.heap.objs.size) >>= fun _ => again (.builtin "list.extend.loop" ⟨[.ref s.heap.objs.size, .ref a, .ref s.heap.objs.size], []⟩)) _ _ _
  refine wpAny_bind (wpAny_rule (wpAny_bind ?_))
  have e1 : (s.heap.push { cls := .type "list", data := .seq #[] }).get? s.heap.objs.size = some { cls := .type "list", data := .seq #[] } := Heap.get?_push_size _ rfl
  show wpAny _ A.in1 (updateSeq s.heap.objs.size (·.push .none) >>= fun _ => updateSeq s.heap.objs.size (·.pop)) _ _ _
  refine wpAny_bind (wpAny_updateSeq e1 rfl ?_)
  have e2 := Heap.get?_update_self (Obj.mapSeq (·.push Value.none)) e1 rfl
  refine wpAny_updateSeq (hz := by seq_fits) e2 rfl ?_
  have e3 := Heap.get?_update_self (Obj.mapSeq (·.pop)) e2 rfl
  have k3 := up _ (Obj.mapSeq (·.pop)) (up _ (Obj.mapSeq (·.push Value.none)) k1)
  refine wpAny_pure ⟨plainId_quiet F.plain_extend_loop _, ?_⟩
  refine drain (P := P) (w := w) (outer := outer) (H := H) (sc := sc) (ex := ex) (Q := Z) (EX := noX) (A := A) (g := g) hr.hd (by have := hr.dp; show A.depth < _; omega) nSa nSc (fun s' acc c H' ys z1 z2 z3 z4 z5 z6 z7 z8 z9 => ?_) (fun e s' hc => (noX_cx hc).elim)
    sizeLine ({ s with heap := (((s.heap.push { cls := .type "list", data := .seq #[] }).update s.heap.objs.size (Obj.mapSeq (·.push Value.none))).update s.heap.objs.size (Obj.mapSeq (·.pop))) } : Shared) (gk k3) (hl.keeps k3) ⟨_, hgs, rfl, ?_⟩
  · show wpAny _ A (load s.heap.objs.size >>= _) _ _ s'
    exact wpAny_bind (wpAny_load z1 (wpAny_pure (hQ s.heap.objs.size s' acc ⟨c, H', ys, Nat.le_refl _, z1, z2, z3, z4, z5, z6, z7, z8, z9⟩)))
  refine wake _ _ _ ⟨hr.hd, ?_, ?_⟩ hfr (Nat.le_refl _) k3 ⟨_, e3⟩ hos (allBare_setGen (s := { s with heap := _ }) hb rfl)
  · have := hr.dp
    show A.depth + 3 * k + 5 < _
    omega
  · have := hr.un
    show A.units + 1 + 1 + 16 * k + 200 < _
    omega
theorem code_tuple_gm {Q₁ : Value → Shared → Prop} (hr : Room (k + 4) A) (hfr : A.frames = some outer) (h : GMade P w k outer H sc ex Z noX u s)
    (hQ : ∀ S s' acc, Drained P w outer H sc ex Z s S s' acc → Q₁ (.ref s'.heap.objs.size) { s' with heap := s'.heap.push { cls := .type "tuple", data := .seq acc } }) :
    codeAny (model P w) A (.call (.builtin "tuple.__new__") ⟨[.type "tuple", u], []⟩) (wants Q₁ E) s := by
  refine codeAny_of_tree ?_
  have hG := h
  obtain ⟨a, g, cd, rfl, ha1, ha2, hg, hgs, hos, hb, hl, hkp, wake⟩ := h
  show wpAny _ A.in1 (do checkBuiltinCall "tuple.__new__" ⟨[.type "tuple", .ref a], []⟩; again (.builtin "tuple.__new__" ⟨[.type "tuple", .ref a], []⟩)) _ _ s
  refine wpAny_bind (wpAny_of_eq (F.newCall_tuple_1 _) (wpAny_pure ⟨plainId_quiet F.plain_tuple_new _, codeAny_builtin F.entry_tuple_new ?_⟩))
  rw [Around.under_plainId F.plain_tuple_new _]
  have hsub := sub_tuple_self
  have hinit := init_tuple_lookup
  have hmh := madeHere_tuple
  have hTI : s.TypeIs (.ref a) "generator" := hg.typeIs
  have hrr : Room (k + 3) A.in1.in1 := by
    refine ⟨hr.hd, ?_, ?_⟩
    · have := hr.dp; show A.depth + 3 * (k + 3) + 5 < _; omega
    · have := hr.un; show A.units + 1 + 1 + 16 * (k + 3) + 200 < _; omega
  have hrr1 : Room (k + 3) A.in1 := by
    refine ⟨hr.hd, ?_, ?_⟩
    · have := hr.dp; show A.depth + 3 * (k + 3) + 5 < _; omega
    · have := hr.un; show A.units + 1 + 16 * (k + 3) + 200 < _; omega
  wp_walk using wpAny_typeOf hTI, collect_gm hrr hfr hG, collect_gm hrr1 hfr hG
  intro S s' acc hd
  show wpAny _ _ (Builtin.Tuple.tupleExact acc.toList.toArray >>= fun v => ret v) _ _ _
  unfold Builtin.Tuple.tupleExact
  have e : acc.toList.toArray = acc := by simp
  obtain ⟨c, H', ys, _, _, r, hz, _⟩ := id hd
  have hl2 := r.length
  refine wpAny_bind (wpAny_newObj_type ?_ (by show acc.toList.toArray.size ≤ sizeLine; rw [e]; have h3 : acc.toList.length = acc.size := by simp
                                              omega))
  refine wpAny_pure ?_
  rw [e]
  exact hQ S s' acc hd
end
end DL

set_option Elab.async false
set_option linter.all false
set_option maxRecDepth 100000
set_option maxHeartbeats 4000000
namespace DL
open PySem PySem.Spec PyProof.Rows L2 GenW GxR

section
variable {P : Program} {w : World} {outer : List PySem.Env} {H : Hp} {sc s : Shared} {ex : List Addr} {Z : List V → Hp → Prop} {A : Around} {k : Nat} {u : Value} {E : Value → Shared → Prop}
theorem call_tuple_gm {Q' : Value → Shared → Prop} (hr : Room (k + 5) A) (hfr : A.frames = some outer) (h : GMade P w k outer H sc ex Z noX u s)
    (hQ : ∀ S s' acc, Drained P w outer H sc ex Z s S s' acc → Q' (.ref s'.heap.objs.size) { s' with heap := s'.heap.push { cls := .type "tuple", data := .seq acc } }) :
    wpAny (model P w) A (call (.type "tuple") [u]) Q' E s := by
  have hr1 : Room (k + 4) A.in1 := Room.in1 hr
  refine callType_codes (Q₁ := fun obj s₁ => s₁.TypeIs obj "tuple" ∧ Q' obj s₁) F.called_tuple (F.typeCall_tuple_1 _) F.entry_object_init
    (code_tuple_gm hr1 hfr h fun S s' acc hd => ⟨⟨_, Heap.get?_push_size _ rfl, rfl⟩, hQ S s' acc hd⟩) fun obj s₁ h₁ => ?_
  exact ⟨h₁.1, F.args_object_init_2 obj _, object_init_meets F.called_tuple.init.lookup F.called_tuple.made (by decide) P w A.in1 _ s₁ ⟨h₁.1, rfl, h₁.2⟩⟩
end
def tTupG (tg : TGen) : TE := fun σ H Q => tg σ H fun out H2 => ∀ S p, H2 S = none → upd H2 S (.lst out) p = none → Q (.ref p) (upd (upd H2 S (.lst out)) p (.tup out))
section
variable {X : Cx} {k : Nat} {e : Expr} {tg : TGen} {nm : Str} {p pos : Pos}
/-- tuple(g) -/
theorem pe_tupG (h : PGen X k e tg noX) (hr : Room (k + 5) X.A) (hg : Gl X nm) (hmg : X.mg nm = none) (hv : bootBuiltins nm = some (.type "tuple")) (hnm : nm ≠ "__name__" := by decide) (hdb : (nm == ("__debug__" : Str)) = false := by decide)
    (he : starEach [e] X.env = (false, eval e X.env) :: starEach [] X.env := by rfl) : PE X (.Call (.Name nm p) [e] [] pos) (tTupG tg) := by
  refine ⟨fun pins s σ H Q I hq => wpAny_Call_Name_kw (ld_blt I hg hmg hv ?_ hnm hdb)⟩
  refine PyProof.Rows.callWith_type1 ?_ he rfl
  rw [he]
  show wpAny _ _ (spliced ((false, eval e X.env) :: backTo pos (starEach [] X.env))) _ _ s
  refine Calls.spliced_cons (thn (h.run pins s σ H _ I hq) fun u s1 hu => ?_)
  obtain ⟨H1, sc, ex, I1, hex, hG⟩ := hu
  refine Calls.spliced_nil ?_
  have hsz : sc.heap.objs.size ≤ s1.heap.objs.size := by
    obtain ⟨a, g, c, _, h1, h2, _⟩ := hG
    exact Nat.le_trans h1 (Nat.le_of_lt h2)
  refine call_tuple_gm hr I1.ok.frames hG fun S s' acc hd => ?_
  obtain ⟨c, H', ys, q0, q1, q2, hl, q3, q4, q5, q6, q7, q8⟩ := hd
  have J := I1.drained (Nat.le_trans hsz q0) hl q1 q2 hex q3 q4 q5 q6 q7
  have e2 : acc = acc.toList.toArray := by simp
  rw [e2]
  exact ⟨.ref _, _, J.laid (o := .tup ys) (t' := s'.toks) (fun _ _ q => Heap.get?_push_of_some _ q) (Nat.le_refl _) ⟨hl, acc.toList, q2, ⟨_, Heap.get?_push_size _ rfl, rfl, 0, rfl⟩⟩, rfl, q8 S _ q7 J.fresh⟩
end
end DL

set_option Elab.async false
set_option linter.all false
set_option maxRecDepth 100000
set_option maxHeartbeats 4000000
namespace DL
open PySem PySem.Spec PyProof.Rows L2 GenW GxR

/-! ## tuple of a generator expression, as data -/
theorem step_tab {P : Addr} {M : Ad} {H H2 : Hp} (t : Tabbed P H H2) (t0 : TabG H P) : Step M H M H2 := by
  obtain ⟨ps0, e0, _⟩ := t0
  refine ⟨fun b u _ e n => ?_, fun b e => ?_, fun b z => .inl z, fun P' z => ?_⟩
  · rw [t.2 b fun z => by rw [z, e0] at e; exact n ps0 (Option.some.inj e).symm]; exact e
  · by_cases hb : b = P
    · obtain ⟨ps, e1, _⟩ := t.1
      rw [hb, e1] at e; cases e
    · rw [← t.2 b hb]; exact e
  · by_cases hb : P' = P
    · rw [hb]; exact t.1
    · obtain ⟨ps, e1, k⟩ := z
      exact ⟨ps, by rw [t.2 P' hb]; exact e1, k⟩
theorem RepLoc.tabbed {tb : Ad} {K : PySem.W.Frag} {Xs M : Ad} {σ : L2.St} {H H2 : Hp} {l : Loc} {P : Addr} (r : RepLoc tb K Xs M σ H l) (t : Tabbed P H H2) (t0 : TabG H P) : RepLoc tb K Xs M σ H2 l := by
  have st : Step (fun _ => False) H (fun _ => False) H2 := step_tab t t0
  have k : ∀ b u, H b = some u → NT u → H2 b = some u := fun b u e n => st.ext b u id e n
  exact r.same (fun b u _ e t => k b u e t) (fun b z => .inl z) (fun a z => ⟨(r.owd_M z).1, fun ws e => k a _ e (fun _ z => nomatch z)⟩) (fun a z => let ⟨vs, e⟩ := r.trk a z; ⟨vs, k a _ e fun _ z => nomatch z⟩) r.dis (fun P z => st.tab P (r.tab P z))
section
variable {X : Cx} {W : WX} {xi : XI} {Γ : Gam} {elt tg iter : Expr} {ifs : List Expr} {scope : Scope} {pos : Pos} {e' : E} {t' : Tg} {ik : Nat} {ies fs : List E} {pr ws : List Nat} {k : Nat} {P : Addr}
/-- the generator's run, as data -/
theorem ge_core (hi : PID X W xi tg iter (evI Γ ik ies)) (hg : ∀ i : GIx k, PGD (gnF X scope i) pr tg t') (ht : ∀ i : GIx k, PTsD (gnF X scope i) W0 xi ifs (evTs Γ fs)) (he : ∀ i : GIx k, PD (gnF X scope i) W0 xi elt (evX Γ e')) (hpr : ∀ i, i < X.N.length → i ∉ ws → i ∈ pr) (hP : xi.tb P) :
    ∃ wi, PI X tg iter wi ∧ ∀ (Xs : Ad) (σ : L2.St) (H : Hp) (l : Loc) (M : Ad) (cont : List V → Hp → Prop), σ.length = X.N.length → RepLoc xi.tb X.K Xs M σ H l →
      Po ⟨X.K, Xs, W, xi, σ⟩ M H (fun s l' M' H' => ∀ out, RepL X.K (Fb Xs M') H' out s → cont out H')
        ((evI Γ ik ies l).bind fun r => match compL (bindT t') (evTs Γ fs) (evX Γ e') ws r.1 [] (wipeD r.2 ws) with
          | .ok (ds, l1) => .ok (ds, l1)
          | _ => .bad) → tGe P wi (wGt (fun i : GIx k => gnF X scope i) tg) (wTs (fun i : GIx k => gnF X scope i) ifs) (wE (fun i : GIx k => gnF X scope i) elt) ws σ H cont := by
  obtain ⟨wi, hwi, qi⟩ := hi.ex
  refine ⟨wi, hwi, fun Xs σ H l M cont hσ r kk => ?_⟩
  refine qi Xs σ H l M _ r (kk.bind.imp fun xs l1 M1 H1 st1 rl1 k1 J hJ => ?_)
  dsimp only at k1
  have t1 : TabG H1 P := rl1.tab P hP
  refine ⟨t1, fun Hz hz => ?_⟩
  have stz : Step M1 H1 M1 Hz := step_tab hz t1
  have rlz := rl1.tabbed hz t1
  -- what is left to do
  let Fin : List DL.D → List DL.D → Loc → Ad → Hp → Prop := fun xs acc l2 M2 H2 => match compL (bindT t') (evTs Γ fs) (evX Γ e') ws xs acc l2 with
    | .ok (ds, l3) => ∀ M' H', Step M2 H2 M' H' → RepLoc xi.tb X.K Xs M' σ H' l3 → ∀ out, RepL X.K (Fb Xs M') H' out ds → cont out H'
    | _ => False
  have shift : ∀ {xs acc l2 M2 H2 M3 H3}, Fin xs acc l2 M2 H2 → Step M2 H2 M3 H3 → Fin xs acc l2 M3 H3 := fun {xs acc l2 M2 H2 M3 H3} h s => by
    have h : match compL (bindT t') (evTs Γ fs) (evX Γ e') ws xs acc l2 with
      | .ok (ds, l3) => ∀ M' H', Step M2 H2 M' H' → RepLoc xi.tb X.K Xs M' σ H' l3 → ∀ out, RepL X.K (Fb Xs M') H' out ds → cont out H'
      | _ => False := h
    show match compL (bindT t') (evTs Γ fs) (evX Γ e') ws xs acc l2 with
      | .ok (ds, l3) => ∀ M' H', Step M3 H3 M' H' → RepLoc xi.tb X.K Xs M' σ H' l3 → ∀ out, RepL X.K (Fb Xs M') H' out ds → cont out H'
      | _ => False
    cases e : compL (bindT t') (evTs Γ fs) (evX Γ e') ws xs acc l2 with
    | ok r => rw [e] at h; exact fun M' H' s2 => h M' H' (s.trans s2)
    | exc x l => rw [e] at h; exact h
    | bad => rw [e] at h; exact h
  let St : Nat → List V → Hp → Prop := fun i ys H2 => ∃ (M2 : Ad) (l2 : Loc) (acc : List DL.D), Step M1 H1 M2 H2 ∧ RepLoc xi.tb X.K Xs M2 (L2.wipe σ ws) H2 (wipeD l2 ws) ∧ RepL X.K (Fb Xs M2) H2 ys acc ∧ Fin (xs.drop i) acc (wipeD l2 ws) M2 H2
  refine ⟨fun i m ys H2 => m = xs.length - i ∧ i ≤ xs.length ∧ St i ys H2, ⟨xs.length, by omega, Nat.zero_le _, M1, l1, [], stz, rlz.wipe ws, RepL.nil, ?_⟩, ?_⟩
  · rw [List.drop_zero]
    show match compL (bindT t') (evTs Γ fs) (evX Γ e') ws xs [] (wipeD l1 ws) with
      | .ok (ds, l3) => ∀ M' H', Step M1 Hz M' H' → RepLoc xi.tb X.K Xs M' σ H' l3 → ∀ out, RepL X.K (Fb Xs M') H' out ds → cont out H'
      | _ => False
    cases e : compL (bindT t') (evTs Γ fs) (evX Γ e') ws xs [] (wipeD l1 ws) with
    | ok r => rw [e] at k1; exact fun M' H' s2 rl v rv => k1 M' H' (stz.trans s2) rl v rv
    | exc x l => rw [e] at k1; exact k1
    | bad => rw [e] at k1; exact k1
  · rintro i m ys H2 ⟨rfl, hi, M2, l2, acc, st2, rl2, ra, k2⟩
    obtain ⟨J1, J2⟩ := hJ _ H2 st2 rl2.trk' i
    by_cases hlt : i < xs.length
    · rw [List.drop_eq_getElem_cons hlt] at k2
      have k2 : match compL (bindT t') (evTs Γ fs) (evX Γ e') ws (xs[i] :: xs.drop (i + 1)) acc (wipeD l2 ws) with
        | .ok (ds, l3) => ∀ M' H', Step M2 H2 M' H' → RepLoc xi.tb X.K Xs M' σ H' l3 → ∀ out, RepL X.K (Fb Xs M') H' out ds → cont out H'
        | _ => False := k2
      unfold compL at k2
      obtain ⟨go, yl⟩ := J1 _ (List.getElem?_eq_getElem hlt)
      cases e1 : bindT t' xs[i] (wipeD (wipeD l2 ws) ws) with
      | none => rw [e1] at k2; exact k2.elim
      | some l3 =>
        rw [e1] at k2
        dsimp only at k2
        refine .inr ⟨go, St (i + 1), fun ys' H' h => ⟨xs.length - (i + 1), by omega, rfl, hlt, h⟩, fun x H3 y => ?_⟩
        obtain ⟨hh, rx⟩ := yl x H3 y
        have ww : L2.wipe (L2.wipe σ ws) ws = L2.wipe σ ws := wipe_eq (wipe_length _ _) fun i _ hv => wipe_get hv
        have rl2' := rl2.wipe ws
        rw [ww] at rl2'
        obtain ⟨st3, rl3⟩ := rl2'.heap hh
        have ra3 := RepL.step st3 ra
        intro ι pins s u I ru
        obtain ⟨g, hg', qg⟩ := (hg ι).ex
        refine hg'.run pins s _ H3 x u _ I ru (qg _ Xs _ H3 _ l3 M2 x _ _ rl3 rx e1 fun σ3 rl4 kp4 => ?_)
        have hlen : σ3.length = σ.length := by
          rw [rl4.len, bindT_ln _ _ _ _ e1, ← rl3.len, wipe_length]
        have hw3 : L2.wipe σ3 ws = L2.wipe σ ws := wipe_eq hlen fun j hj hv => by
          rw [kp4 j (hpr j (by rw [← hσ]; exact hj) hv), wipe_get hv]
        refine ⟨hw3, fun ι pins s I => ?_⟩
        obtain ⟨tt, htt, qt⟩ := (ht ι).ex
        refine htt.run pins s σ3 H3 _ I (qt Xs σ3 H3 l3 M2 _ rl4 ?_)
        cases e2 : evTs Γ fs l3 with
        | bad => rw [e2] at k2; exact k2.elim
        | exc x l => rw [e2] at k2; exact k2.elim
        | ok r =>
          obtain ⟨b, l4⟩ := r
          rw [e2] at k2
          intro M4 H4 st4 rl5
          have ra4 := RepL.step st4 ra3
          have stA := (st2.trans st3).trans st4
          dsimp only [R.bind] at k2 rl5 ⊢
          cases b with
          | false =>
            rw [if_neg Bool.false_ne_true] at k2 ⊢
            have rl6 := rl5.wipe ws
            rw [hw3] at rl6
            exact ⟨M4, l4, acc, stA, rl6, ra4, shift (show Fin _ _ _ _ _ from k2) (st3.trans st4)⟩
          | true =>
            rw [if_pos rfl] at k2 ⊢
            intro ι pins s I
            obtain ⟨te, hte, qe⟩ := (he ι).ex
            refine hte.run pins s σ3 H4 _ I (qe Xs σ3 H4 l4 M4 _ rl5 ?_)
            cases e3 : evX Γ e' l4 with
            | bad => rw [e3] at k2; exact k2.elim
            | exc x l => rw [e3] at k2; exact k2.elim
            | ok r =>
              obtain ⟨s5, l5⟩ := r
              rw [e3] at k2
              intro M5 H5 st5 rl6 y ry
              dsimp only at k2 rl6 ry
              obtain ⟨M5', hm, rl7, ry'⟩ := RepR.frozen rl6 ry
              have st5' := st5.less hm
              have ra5 := RepL.step st5' ra4
              by_cases hz : acc.length < 16777216
              · rw [if_pos hz] at k2
                have rl8 := rl7.wipe ws
                rw [hw3] at rl8
                exact ⟨by rw [ra5.length, nat_sl]; exact hz, M5', l5, acc ++ [s5.d], stA.trans st5', rl8, RepL.append ra5 (RepL.cons ry' RepL.nil), shift (show Fin _ _ _ _ _ from k2) ((st3.trans st4).trans st5')⟩
              · rw [if_neg hz] at k2; exact k2.elim
    · have e : i = xs.length := by omega
      subst e
      refine .inl ⟨J2 (Nat.le_refl _), ?_⟩
      rw [List.drop_length] at k2
      have k2 : ∀ M' H', Step M2 H2 M' H' → RepLoc xi.tb X.K Xs M' σ H' (wipeD l2 ws) → ∀ out, RepL X.K (Fb Xs M') H' out acc → cont out H' := k2
      exact k2 _ H2 Step.refl rl2.unwipe ys ra
end
end DL

set_option Elab.async false
set_option linter.all false
set_option maxRecDepth 100000
set_option maxHeartbeats 4000000
namespace DL
open PySem PySem.Spec PyProof.Rows L2

/-! ## methods of own lists -/
def mtNm : Mt → Str
  | .pop => "pop" | .popAt => "pop" | .ins => "insert" | .rev => "reverse"
/-- a method of own lists by its name and the number of its arguments -/
def mtOf (m : Str) (n : Nat) : Option Mt :=
  if m == ("pop" : Str) && n == 0 then some .pop else if m == ("pop" : Str) && n == 1 then some .popAt else if m == ("insert" : Str) && n == 2 then some .ins else if m == ("reverse" : Str) && n == 0 then some .rev else none
/-- what a method does, in the hand layer's terms -/
def RM (K : PySem.W.Frag) (m : Mt) : V → List V → Hp → VK → Prop := fun x xs H Q => ∃ (F : Ad) (a : Addr) (vs : List V) (ds : List D) (es : List D) (z : D × List D), x = .ref a ∧ H a = some (.lst vs) ∧ RepL K F H vs ds ∧ RepL K F H xs es ∧ mthD m ds es = some z ∧
  ∀ y ws, Rep K F H y z.1 → RepL K F H ws z.2 → Q y (upd H a (.lst ws))
theorem RepL.eraseIdx {K : PySem.W.Frag} {F : Ad} {H : Hp} : ∀ {ds : List D} {vs : List V} (n : Nat), RepL K F H vs ds → RepL K F H (vs.eraseIdx n) (ds.eraseIdx n)
  | [], vs, n, h => by rw [RepL] at h; subst h; simpa using RepL.nil
  | d :: ds, vs, 0, h => by
    rw [RepL] at h
    obtain ⟨w, r, rfl, h1, h2⟩ := h
    exact h2
  | d :: ds, vs, n + 1, h => by
    rw [RepL] at h
    obtain ⟨w, r, rfl, h1, h2⟩ := h
    exact RepL.cons h1 (RepL.eraseIdx n h2)
section
variable {X : Cx}
theorem mt_pop' : MtM X "list.pop" (RM X.K .pop) := by
  intro pins s σ H x vs v us Q I rx rv h
  obtain ⟨F, a, ws, ds, es, z, rfl, hH, rw', re, e, q⟩ := h
  cases es with
  | cons _ _ => unfold mthD at e; cases e
  | nil =>
    rw [RepL] at re
    subst re
    unfold mthD at e
    dsimp only at e
    split at e
    · rename_i d hd
      cases e
      obtain ⟨y, hy, ry⟩ := rw'.get' hd
      refine mt_pop pins s σ H _ _ v us Q I rx rv ⟨a, ws, y, rfl, rfl, hH, by rw [rw'.length]; exact hy, q y _ ry ?_⟩
      have e1 : ws.dropLast = ws.take (ws.length - 1) := List.dropLast_eq_take ..
      have e2 : ds.dropLast = ds.take (ds.length - 1) := List.dropLast_eq_take ..
      rw [e1, e2, rw'.length]
      exact rw'.take _
    · cases e
theorem mt_popAt' : MtM X "list.pop" (RM X.K .popAt) := by
  intro pins s σ H x vs v us Q I rx rv h
  obtain ⟨F, a, ws, ds, es, z, rfl, hH, rw', re, e, q⟩ := h
  match es, e with
  | [.int j], e =>
    unfold mthD at e
    dsimp only at e
    split at e
    · rename_i k hk
      split at e
      · rename_i d hd
        cases e
        obtain ⟨hk1, hk2, hk3, hk4⟩ := ixN_seq hk
        obtain ⟨y, hy, ry⟩ := rw'.get' hd
        rw [RepL] at re
        obtain ⟨v1, r1, rfl, q1, q2⟩ := re
        rw [RepL] at q2
        subst q2
        rw [Rep] at q1
        subst q1
        obtain ⟨hz, _⟩ := I.lstM hH
        have hz' : ws.length ≤ 16777216 := by rw [← nat_sl]; exact hz
        have hl := rw'.length
        exact mt_popAt pins s σ H _ _ v us Q I rx rv ⟨a, ws, j, k, y, rfl, rfl, hH, by omega, by omega, by rw [hl]; exact hk1, hy, q y _ ry (rw'.eraseIdx k)⟩
      · cases e
    · cases e
  | [], e => unfold mthD at e; cases e
  | [.non], e => unfold mthD at e; cases e
  | [.bl _], e => unfold mthD at e; cases e
  | [.str _], e => unfold mthD at e; cases e
  | [.tup _], e => unfold mthD at e; cases e
  | [.lst _], e => unfold mthD at e; cases e
  | _ :: _ :: _, e => unfold mthD at e; simp at e
theorem mt_ins' : MtM X "list.insert" (RM X.K .ins) := by
  intro pins s σ H x vs v us Q I rx rv h
  obtain ⟨F, a, ws, ds, es, z, rfl, hH, rw', re, e, q⟩ := h
  unfold mthD at e
  split at e <;> first | contradiction | skip
  split at e
  · rename_i j d _ hc
    cases e
    rw [RepL] at re
    obtain ⟨v1, r1, rfl, q1, q2⟩ := re
    rw [RepL] at q2
    obtain ⟨v2, r2, rfl, q3, q4⟩ := q2
    rw [RepL] at q4
    subst q4
    rw [Rep] at q1
    subst q1
    have hl := rw'.length
    exact mt_insert pins s σ H _ _ v us Q I rx rv ⟨a, ws, j, v2, rfl, rfl, hH, by rw [nat_sl]; omega, hc.1, by omega, q _ _ Rep.non (((rw'.take _).append (RepL.cons q3 RepL.nil)).append (rw'.drop _))⟩
  · cases e
theorem mt_rev' : MtM X "list.reverse" (RM X.K .rev) := by
  intro pins s σ H x vs v us Q I rx rv h
  obtain ⟨F, a, ws, ds, es, z, rfl, hH, rw', re, e, q⟩ := h
  cases es with
  | cons _ _ => unfold mthD at e; cases e
  | nil =>
    rw [RepL] at re
    subst re
    unfold mthD at e
    cases e
    exact mt_reverse pins s σ H _ _ v us Q I rx rv ⟨a, ws, rfl, rfl, hH, q _ _ Rep.non rw'.reverse⟩
end
section
variable {X : Cx} {W : WX} {xi : XI} {Γ : Gam}
theorem mth_core {m : Mt} {i : Nat} {es' : List E} {t : TA} (q : ∀ (Xs : Ad) (σ : L2.St) (H : Hp) (l : Loc) (M : Ad) (Q : List V → Hp → Prop), RepLoc xi.tb X.K Xs M σ H l →
    Po ⟨X.K, Xs, W, xi, σ⟩ M H (fun ds l' M' H' => ∀ vs, RepL X.K (Fb Xs M') H' vs ds → Q vs H') (evDs Γ es' l) → t σ H Q) : ∀ (Xs : Ad) (σ : L2.St) (H : Hp) (l : Loc) (M : Ad) (Q : VK), RepLoc xi.tb X.K Xs M σ H l →
    Po ⟨X.K, Xs, W, xi, σ⟩ M H (fun s l' M' H' => ∀ v, RepR X.K Xs M' σ l' H' v s → Q v H') (evX Γ (.mth m i es') l) → ∃ a, σ[i]? = some (some (V.ref a)) ∧ (∃ vs, H a = some (.lst vs)) ∧ t σ H fun xs H2 => RM X.K m (.ref a) xs H2 Q := by
  intro Xs σ H l M Q r k
  rw [evX.eq_def] at k
  dsimp only at k
  cases e1 : ownAt l i with
  | none => rw [e1] at k; exact k.elim
  | some ds0 =>
    rw [e1] at k
    dsimp only at k
    obtain ⟨a, vs, g1, g2, g3, g4⟩ := r.own i _ (ownAt_some e1)
    refine ⟨a, g1, ⟨vs, g3⟩, q Xs σ H l M _ r (k.bind.imp fun as l1 M1 H1 st1 rl1 k1 xs rv => ?_)⟩
    dsimp only at k1
    cases e2 : ownAt l1 i with
    | none => rw [e2] at k1; exact k1.elim
    | some ds =>
      rw [e2] at k1
      dsimp only at k1
      cases e3 : mthD m ds as with
      | none => rw [e3] at k1; exact k1.elim
      | some z =>
        rw [e3] at k1
        have ow := ownAt_some e2
        obtain ⟨b, ws, q1, q2, q3, q4⟩ := rl1.own i _ ow
        have q1' : σ[i]? = some (some (V.ref b)) := q1
        rw [g1] at q1'
        have : a = b := by simpa using q1'
        subst this
        refine ⟨Fb Xs M1, a, ws, ds, as, z, rfl, q3, q4, rv, e3, fun y us ry ru => ?_⟩
        obtain ⟨st3, rl3⟩ := rl1.put ow g1 ru
        exact k1 M1 _ st3 rl3 y (Rep.step (X := Xs) st3 ry)
theorem all_star {e : Expr} {es : List Expr} {env : PySem.Env} {pos : Pos} (h : (e :: es).all notStar = true) : starEach (e :: es) env = (false, eval e env) :: starEach es env ∧ (backTo pos (starEach es env)).any (·.1) = false := by
  rw [List.all_cons, Bool.and_eq_true] at h
  exact ⟨starEach_cons h.1, starEach_any h.2⟩
theorem few_star {es : List Expr} {env : PySem.Env} {pos : Pos} (h : es.all notStar = true) (hf : es.length < 29) : ((backTo pos (starEach es env)).all (fun x => !x.1) && (backToKw pos (keywordEach [] env)).all (fun x => x.1.isSome)
      && decide (es.length + ([] : List Keyword).length + (if ([] : List Keyword).isEmpty then 0 else 1) < 30)) = true := by
  have h1 : (backTo pos (starEach es env)).all (fun x => !x.1) = true := by
    have := starEach_any (env := env) (pos := pos) h
    rw [List.any_eq_false] at this
    rw [List.all_eq_true]
    intro x hx
    have := this x hx
    simpa using this
  rw [h1]
  have h2 : es.length + 0 + 0 < 30 := by omega
  simp [keywordEach, backToKw]
  omega
theorem pd_mth0 {m : Mt} {i : Nat} {x nm : Str} {px pa pc : Pos} (hv : PE X (.Name x px) (tVar i)) (hm : mtOf nm 0 = some m) (hl : (pa.endLine == pc.line) = true) :
    PD X W xi (.Call (.Attribute (.Name x px) nm pa) [] [] pc) (evX Γ (.mth m i [])) := by
  have core := mth_core (X := X) (W := W) (xi := xi) (Γ := Γ) (m := m) (i := i) (es' := []) (t := tNil) fun Xs σ H l M Q r g => by
    rw [evDs.eq_def] at g
    exact g M H Step.refl r [] RepL.nil
  have fin : ∀ (Xs : Ad) (σ : L2.St) (H : Hp) (l : Loc) (M : Ad) (Q : VK), RepLoc xi.tb X.K Xs M σ H l → Po ⟨X.K, Xs, W, xi, σ⟩ M H (fun s l' M' H' => ∀ v, RepR X.K Xs M' σ l' H' v s → Q v H') (evX Γ (.mth m i []) l) → tBM0 X.K "list" (RM X.K m) (tVar i) σ H Q := fun Xs σ H l M Q r k => by
    obtain ⟨a, g1, ⟨vs, g3⟩, g4⟩ := core Xs σ H l M Q r k
    exact ⟨.ref a, g1, .inl ⟨rfl, vs, .inl (.inl g3)⟩, g4⟩
  unfold mtOf at hm
  split at hm
  · rename_i hx; cases hm
    simp only [Bool.and_eq_true, beq_iff_eq] at hx
    obtain ⟨rfl, _⟩ := hx
    exact ⟨_, pe_bm0 PySem.F.plainAttrs_list PySem.F.slot_list_pop PySem.F.type_list_pop mt_pop' hv rfl hl, fin⟩
  split at hm
  · rename_i hx; simp at hx
  split at hm
  · rename_i hx; simp at hx
  split at hm
  · rename_i hx; cases hm
    simp only [Bool.and_eq_true, beq_iff_eq] at hx
    obtain ⟨rfl, _⟩ := hx
    exact ⟨_, pe_bm0 PySem.F.plainAttrs_list PySem.F.slot_list_reverse PySem.F.type_list_reverse mt_rev' hv rfl hl, fin⟩
  · cases hm
theorem pd_mth {m : Mt} {i : Nat} {x nm : Str} {px pa pc : Pos} {e : Expr} {es : List Expr} {es' : List E} (hv : PE X (.Name x px) (tVar i)) (h : PLD X W xi (e :: es) (evDs Γ es')) (hs : (e :: es).all notStar = true) (hm : mtOf nm (e :: es).length = some m) (hl : (pa.endLine == pc.line) = true) :
    PD X W xi (.Call (.Attribute (.Name x px) nm pa) (e :: es) [] pc) (evX Γ (.mth m i es')) := by
  obtain ⟨t, ht, q⟩ := h.ex
  have core := mth_core (X := X) (W := W) (xi := xi) (Γ := Γ) (m := m) (i := i) (es' := es') q
  have fin : ∀ (Xs : Ad) (σ : L2.St) (H : Hp) (l : Loc) (M : Ad) (Q : VK), RepLoc xi.tb X.K Xs M σ H l → Po ⟨X.K, Xs, W, xi, σ⟩ M H (fun s l' M' H' => ∀ v, RepR X.K Xs M' σ l' H' v s → Q v H') (evX Γ (.mth m i es') l) → tBM X.K "list" (RM X.K m) (tVar i) t σ H Q := fun Xs σ H l M Q r k => by
    obtain ⟨a, g1, ⟨vs, g3⟩, g4⟩ := core Xs σ H l M Q r k
    exact ⟨.ref a, g1, .inl ⟨rfl, vs, .inl (.inl g3)⟩, g4⟩
  obtain ⟨s1, s2⟩ := all_star (env := X.env) (pos := pc) hs
  have few : (e :: es).length < 29 → _ := few_star (env := X.env) (pos := pc) hs
  unfold mtOf at hm
  split at hm
  · rename_i hx; simp at hx
  split at hm
  · rename_i hx; cases hm
    simp only [Bool.and_eq_true, beq_iff_eq] at hx
    obtain ⟨rfl, hn⟩ := hx
    exact ⟨_, pe_bm PySem.F.plainAttrs_list PySem.F.slot_list_pop PySem.F.type_list_pop mt_popAt' hv ht rfl (few (by omega)) hl s1 s2, fin⟩
  split at hm
  · rename_i hx; cases hm
    simp only [Bool.and_eq_true, beq_iff_eq] at hx
    obtain ⟨rfl, hn⟩ := hx
    exact ⟨_, pe_bm PySem.F.plainAttrs_list PySem.F.slot_list_insert PySem.F.type_list_insert mt_ins' hv ht rfl (few (by omega)) hl s1 s2, fin⟩
  split at hm
  · rename_i hx; simp at hx
  · cases hm
end
end DL

set_option Elab.async false
set_option linter.all false
set_option maxRecDepth 100000
set_option maxHeartbeats 4000000
namespace DL
open PySem PySem.Spec PyProof.Rows L2 HT

/-! ## x[::-1] -/
section
variable {prog : Program} {w : World} {A : Around} {E : Value → Shared → Prop} {s : Shared}
theorem pick_back (items : Array Value) : ((List.range items.size).filterMap fun (k : Nat) => items[(((items.size : Int) - 1) + (k : Int) * (-1)).toNat]?).toArray = items.toList.reverse.toArray := by
  have e : (List.range items.size).filterMap (fun (k : Nat) => items[(((items.size : Int) - 1) + (k : Int) * (-1)).toNat]?) = ((List.range items.size).map fun k => items.size - 1 - k).filterMap (items[·]?) := by
    rw [List.filterMap_map]
    have key : ∀ l : List Nat, (∀ k ∈ l, k < items.size) → l.filterMap (fun (k : Nat) => items[(((items.size : Int) - 1) + (k : Int) * (-1)).toNat]?) = l.filterMap ((fun x => items[x]?) ∘ fun k => items.size - 1 - k) := by
      intro l
      induction l with
      | nil => intro _; rfl
      | cons a l ih =>
        intro h
        have h1 : (((items.size : Int) - 1) + (a : Int) * (-1)).toNat = items.size - 1 - a := by omega
        rw [List.filterMap_cons, List.filterMap_cons, ih fun k hk => h k (List.mem_cons_of_mem _ hk)]
        simp only [Function.comp_apply, h1]
    exact key _ fun k hk => List.mem_range.mp hk
  rw [e, PySem.W.krv_range, List.filterMap_reverse, PySem.W.krv_all]
theorem getItem_tuple_rev {t sl : Addr} {items : Array Value} {tk : Tok} {Q : Value → Shared → Prop} (ht : IsTup s.heap t items) (hs : s.heap.IsSliceOf sl .none .none (.int (-1) tk))
    (h : Q (.ref s.heap.objs.size) { s with heap := s.heap.push { cls := .type "tuple", data := .seq items.toList.reverse.toArray } }) (hsz : items.size ≤ sizeLine) : wpAny (model prog w) A (getItem (.ref t) (.ref sl)) Q E s := by
  obtain ⟨os, hos, hcs, hds⟩ := id hs
  have hTs : s.TypeIs (.ref sl) "slice" := ⟨os, hos, hcs⟩
  unfold getItem
  try with_reducible refine wpAny_holding ?_
  first | refine wpAny_bind (wpAny_pure ?_) | skip
  refine wpAny_bind (wpAny_sequenceKey ht.typeIs (by decide) ?_)
  refine wpAny_bind (wpAny_callSpecial?_slot (name := Str.ofString "__getitem__") ht.typeIs PyProof.Rows.slot_tuple_getitem
    (wpAny_call_entry PyProof.Rows.slot_tuple_getitem ht.typeIs entry_tuple_getitem ?_ (args_tuple_getitem _ _)))
  show wpAny _ _ (Builtin.Tuple.tupleItemsOf (.ref t) >>= _) _ _ s
  refine wpAny_bind (tupleItemsOf_ ht ?_)
  refine wpAny_bind (wpAny_typeOf hTs ?_)
  rw [if_pos (by decide)]
  refine wpAny_bind (wpAny_mono (Q := fun (r : Int × Int × Nat) s' => r = ((items.size : Int) - 1, -1, items.size) ∧ s' = s) (E := fun _ _ => False) ?_ ?_ fun _ _ z => z.elim)
  · unfold Builtin.Slice.sliceApplied Builtin.Slice.sliceFields
    refine wpAny_bind (wpAny_bind (wpAny_field hos hds (x := .none) rfl (wpAny_bind (wpAny_field hos hds (x := .none) rfl (wpAny_bind (wpAny_field hos hds (x := .int (-1) tk) rfl (wpAny_pure ?_)))))))
    refine wpAny_bind (slicePart_int ?_)
    show wpAny _ _ (if ((-1 : Int) == 0) = true then _ else _) _ _ s
    rw [if_neg (by decide)]
    refine wpAny_bind (slicePart_none (wpAny_bind (slicePart_none (wpAny_bind (wpAny_pure ?_)))))
    have e1 : Builtin.Slice.sliceAdjust none none (-1) (items.size : Int) = ((items.size : Int) - 1, -1) := by
      unfold Builtin.Slice.sliceAdjust
      simp
    have e2 : Builtin.Slice.slicePlaces ((items.size : Int) - 1) (-1) (-1) = items.size := by
      unfold Builtin.Slice.slicePlaces
      have h1 : ¬ ((-1 : Int) > 0) := by omega
      simp only [h1, if_false]
      split <;> simp <;> omega
    show wpAny _ _ (match Builtin.Slice.sliceAdjust none none (-1) (items.size : Int) with | (lo, hi) => pure (lo, (-1 : Int), Builtin.Slice.slicePlaces lo hi (-1))) _ _ s
    rw [e1]
    show wpAny _ _ (pure ((items.size : Int) - 1, (-1 : Int), Builtin.Slice.slicePlaces ((items.size : Int) - 1) (-1) (-1))) _ _ s
    rw [e2]
    exact wpAny_pure ⟨rfl, rfl⟩
  · rintro r s' ⟨rfl, rfl⟩
    have hno : ¬ ((((items.size : Int) - 1) == 0 && (-1 : Int) == 1 && items.size == items.size) = true) := by simp
    have htake : sizeOk (.seq items.toList.reverse.toArray) := by
      show items.toList.reverse.toArray.size ≤ sizeLine
      rw [List.size_toArray, List.length_reverse, Array.length_toList]; exact hsz
    show wpAny _ _ (if (((items.size : Int) - 1) == 0 && (-1 : Int) == 1 && items.size == items.size) = true then _ else _) _ _ _
    rw [if_neg hno, pick_back]
    first
      | exact wpAny_bind (m := Builtin.Tuple.tupleExact _) (wpAny_newObj_type (wpAny_pure ⟨_, rfl, wpAny_pure h⟩) htake)
      | exact wpAny_bind (m := Builtin.Tuple.tupleExact _) (wpAny_newObj_type (wpAny_bind (wpAny_pure (wpAny_pure ⟨_, rfl, wpAny_pure h⟩))) htake)
      | exact wpAny_bind (wpAny_bind (m := Builtin.Tuple.tupleExact _) (wpAny_newObj_type (wpAny_pure (wpAny_pure ⟨_, rfl, wpAny_pure h⟩)) htake))
      | exact wpAny_bind (wpAny_bind (m := Builtin.Tuple.tupleExact _) (wpAny_newObj_type (wpAny_pure ⟨_, rfl, wpAny_pure h⟩) htake))
end
def tRevSl (K : PySem.W.Frag) (te ts : TE) : TE := fun σ H Q => te σ H fun x H1 => ts σ H1 fun y H2 => y = .int (-1) ∧ ∃ a xs, x = .ref a ∧ ((SqL K H2 a xs ∧ ∀ p, H2 p = none → Q (.ref p) (upd H2 p (.lst xs.reverse))) ∨ (SqT K H2 a xs ∧ ∀ p, H2 p = none → Q (.ref p) (upd H2 p (.tup xs.reverse))))
theorem vals_back {xs : List V} {us : List Value} (r : Vals xs us) : Vals xs.reverse us.reverse := r.reverse
theorem pe_revsl {X : Cx} {e st : Expr} {te ts : TE} {p2 pos : Pos} (he : PE X e te) (hs : PE X st ts) : PE X (.Subscript e (.Slice none none (some st) p2) pos) (tRevSl X.K te ts) := by
  refine ⟨fun pins s σ H Q I h => ?_⟩
  refine Subscript_ (thn (he.run pins s σ H _ I h) fun v s1 ⟨x, H1, I1, r1, q1⟩ => ?_)
  refine wpAny_Slice ?_
  rw [evalPart_none]
  refine wpAny_pure ?_
  refine wpAny_pure ?_
  rw [evalPart_some]
  refine thn (hs.run pins s1 σ H1 _ I1 q1) fun vs s3 ⟨y, H3, I3, ry, ey, a, xs, ex, q3⟩ => ?_
  subst ey ex
  obtain ⟨t, rfl⟩ := ry
  cases r1
  have I4 : Inv X pins σ H3 { s3 with heap := s3.heap.push { cls := .type "slice", data := .fields #[.none, .none, .int (-1) t] } } := I3.kept (t' := s3.toks) fun b ob q => Heap.get?_push_of_some _ q
  show wpAny (model X.prog X.w) X.A (subscriptTail e (.Slice none none (some st) p2) (.ref a) (.ref s3.heap.objs.size)) (EP X pins σ Q) X.xe { s3 with heap := s3.heap.push { cls := .type "slice", data := .fields #[.none, .none, .int (-1) t] } }
  rcases q3 with ⟨hq, q⟩ | ⟨hq, q⟩
  · obtain ⟨its, r, ht, hz⟩ := I4.list hq
    refine tail_any (ops := [.ref a, .ref s3.heap.objs.size]) ht.isList.typeIs slot_list_getitem.lookup (wpAny_getItem_list_slice ht.isList (Heap.IsSliceOf.new ..) .none .none (.int (-1) t) (by simp) ?_ (by rw [List.size_toArray, ← r.length]; exact hz)) (by with_unfolding_all rfl)
    rw [PySem.W.krv_pick]
    refine ⟨.ref _, _, I4.laid (t' := s3.toks) (o := .lst xs.reverse) (fun b ob q => Heap.get?_push_of_some _ q) (Nat.le_refl _) ?_, rfl, q _ (I4.hok.fresh (Nat.le_refl _))⟩
    exact ⟨by rw [List.length_reverse]; exact hz, _, 0, r.reverse, Heap.get?_push_size _ rfl⟩
  · obtain ⟨its, r, ht, hz⟩ := I4.tuple hq
    refine tail_any (ops := [.ref a, .ref s3.heap.objs.size]) ht.typeIs PyProof.Rows.slot_tuple_getitem.lookup (getItem_tuple_rev ht (Heap.IsSliceOf.new ..) ?_ (by rw [List.size_toArray, ← r.length]; exact hz)) (by with_unfolding_all rfl)
    refine ⟨.ref _, _, I4.laid (t' := s3.toks) (o := .tup xs.reverse) (fun b ob q => Heap.get?_push_of_some _ q) (Nat.le_refl _) ?_, rfl, q _ (I4.hok.fresh (Nat.le_refl _))⟩
    exact ⟨by rw [List.length_reverse]; exact hz, _, r.reverse, IsTup.new _ _⟩
end DL

set_option Elab.async false
set_option linter.all false
set_option maxRecDepth 100000
set_option maxHeartbeats 4000000
namespace DL
open PySem PySem.Spec PyProof.Rows L2 RZ

/-! ## enumerate of a tuple -/
theorem enum_newT (l : Addr) (items : Array Value) (n : Nat) (dct : Option Addr) (sl : Array (Option Value)) :
    Meets (Builtin.«enumerate.__new__» ⟨[.type "enumerate", .ref l], []⟩) (fun _ R s => s.heap.get? l = some { cls := .type "tuple", dict := dct, data := .seq items n, slots := sl } ∧
      R (.ok (.ret (.ref (s.heap.push { cls := .type "tuple_iterator", data := .fields #[.ref l, .int 0 0] }).objs.size)))
        { s with heap := (s.heap.push { cls := .type "tuple_iterator", data := .fields #[.ref l, .int 0 0] }).push { cls := .type "enumerate", data := .fields #[.none, .bool false, .ref s.heap.objs.size, rawInt 0, .none, .none] } }) :=
  .of_wp fun prog w A R s h => by
    obtain ⟨hp, g, d, tk, os⟩ := s; obtain ⟨hl, h⟩ := h
    have hsub := sub_enumerate
    have hL : Heap.IsTuple (Shared.heap ⟨hp, g, d, tk, os⟩) l items := ⟨_, hl, rfl, n, rfl⟩
    wp_walk using wpAny_loadPart' hl
    refine wpAny_stack_any fun st => wpAny_pure ?_
    split
    · rename_i c _ _ _ _ _
      cases (c == Value.type "enumerate")
      · wp_walk using wpAny_loadPart' hl, wpAny_pyIter_tuple hL
        exact ⟨_, rfl, h⟩
      · wp_walk using wpAny_loadPart' hl, wpAny_pyIter_tuple hL
        exact ⟨_, rfl, h⟩
    · wp_walk using wpAny_loadPart' hl, wpAny_pyIter_tuple hL
      exact ⟨_, rfl, h⟩
section
variable {prog : Program} {w : World} {A : Around} {E : Value → Shared → Prop} {s : Shared}
theorem call_enumT {l : Addr} {items : Array Value} {Q : Value → Shared → Prop} (hL : s.heap.IsTuple l items)
    (h : ∀ h', IsEnum h' (s.heap.objs.size + 1) s.heap.objs.size 0 .none → h'.IsTupleIter s.heap.objs.size l 0 → h'.objs.size = s.heap.objs.size + 2 →
      (∀ b o, s.heap.get? b = some o → h'.get? b = some o) → Q (.ref (s.heap.objs.size + 1)) { s with heap := h' }) :
    wpAny (model prog w) A (call (.type "enumerate") [.ref l]) Q E s := by
  obtain ⟨⟨c, dct, dt, sl⟩, hl, hc, n, hd⟩ := hL
  replace hc : c = .type "tuple" := hc
  replace hd : dt = .seq items n := hd
  subst hc hd
  refine callType_new F.called_enumerate (by decide) (F.typeCall_enumerate_1 _) (F.newCall_enumerate_1 _) (fun obj => F.args_object_init_2 obj _) F.entry_enumerate_new
    (enum_newT l items n dct sl) ⟨hl, ?_⟩
  have hz : (s.heap.push { cls := .type "tuple_iterator", data := .fields #[.ref l, .int 0 0] }).objs.size = s.heap.objs.size + 1 := Heap.size_push ..
  show _ ∧ _
  rw [hz]
  have he : IsEnum ((s.heap.push { cls := .type "tuple_iterator", data := .fields #[.ref l, .int 0 0] }).push
      { cls := .type "enumerate", data := .fields #[.none, .bool false, .ref s.heap.objs.size, rawInt 0, .none, .none] }) (s.heap.objs.size + 1) s.heap.objs.size 0 .none := by
    have := Heap.get?_push_size (s.heap.push { cls := .type "tuple_iterator", data := .fields #[.ref l, .int 0 0] })
      (o := { cls := .type "enumerate", data := .fields #[.none, .bool false, .ref s.heap.objs.size, rawInt 0, .none, .none] }) rfl
    rw [hz] at this; exact this
  refine ⟨⟨_, he, rfl⟩, h _ he ⟨_, Heap.get?_push_of_some _ (Heap.get?_push_size _ rfl), rfl, rfl⟩ (by rw [Heap.size_push, hz]) fun b o x => Heap.get?_push_of_some _ (Heap.get?_push_of_some _ x)⟩
theorem enum_itemT {e it l : Addr} {i : Nat} {items : Array Value} {x old : Value} {Q : Value → Shared → Prop}
    (he : IsEnum s.heap e it i old) (hit : s.heap.IsTupleIter it l i) (hl : s.heap.IsTuple l items) (hx : items[i]? = some x) (hne : e ≠ it)
    (hQ : ∀ h', IsEnumOut h' e it ((i : Int) + 1) x s.heap.objs.size → h'.IsTupleIter it l (i + 1) →
      h'.get? s.heap.objs.size = some { cls := .type "tuple", data := .seq #[.int i s.toks, x] } → h'.objs.size = s.heap.objs.size + 1 →
      (∀ b o, b ≠ e → b ≠ it → s.heap.get? b = some o → h'.get? b = some o) → Q (.ref s.heap.objs.size) { s with heap := h', toks := s.toks + 1 }) :
    wpAny (model prog w) A (Builtin.«enumerate.__next__» ⟨[.ref e], []⟩) (fun fin s' => ∃ v, fin = .done (.ret v) ∧ Q v s') E s := by
  obtain ⟨hp, g, d, tk, os⟩ := s
  show wpAny _ _ (field (.ref e) 2 >>= _) _ _ _
  refine wpAny_bind (wpAny_field he rfl (x := .ref it) rfl ?_)
  refine wpAny_bind (nextOf_tuple_item hit hl hx fun h₁ hit₁ hs₁ => ?_)
  replace hs₁ : Heap.SameBut it hp h₁ := hs₁
  have he₁ : IsEnum h₁ e it i old := (hs₁.2 e hne).trans he
  show wpAny _ _ (field (.ref e) 3 >>= _) _ _ ⟨h₁, g, d, tk, os⟩
  refine wpAny_bind (wpAny_field he₁ rfl (x := rawInt i) rfl ?_)
  show wpAny _ _ (field (.ref e) 4 >>= _) _ _ ⟨h₁, g, d, tk, os⟩
  refine wpAny_bind (wpAny_field he₁ rfl (x := .none) rfl ?_)
  show wpAny _ _ (mkInt i >>= _) _ _ ⟨h₁, g, d, tk, os⟩
  refine wpAny_bind (wpAny_mkInt ?_)
  show wpAny _ _ (setField (.ref e) 3 (rawInt ((i : Int) + 1)) >>= _) _ _ ⟨h₁, g, d, tk + 1, os⟩
  refine wpAny_bind (wpAny_setField_rec he₁ (by simp) fun h₂ he₂ hs₂ => ?_)
  replace hs₂ : Heap.SameBut e h₁ h₂ := hs₂
  replace he₂ : IsEnum h₂ e it ((i : Int) + 1) old := he₂
  show wpAny _ _ (setField (.ref e) 4 .none >>= _) _ _ ⟨h₂, g, d, tk + 1, os⟩
  refine wpAny_bind (wpAny_setField_rec he₂ (by simp) fun h₃ he₃ hs₃ => ?_)
  replace hs₃ : Heap.SameBut e h₂ h₃ := hs₃
  replace he₃ : IsEnum h₃ e it ((i : Int) + 1) old := he₃
  show wpAny _ _ (newTuple [.int i tk, x] >>= _) _ _ ⟨h₃, g, d, tk + 1, os⟩
  refine wpAny_bind (wpAny_newTuple ?_)
  have he₄ : IsEnum (h₃.push { cls := .type "tuple", data := .seq #[.int i tk, x] }) e it ((i : Int) + 1) old := Heap.get?_push_of_some _ he₃
  generalize hh₄ : h₃.push { cls := .type "tuple", data := .seq #[.int i tk, x] } = h₄ at he₄
  have hsz : h₃.objs.size = hp.objs.size := by rw [hs₃.1, hs₂.1, hs₁.1]
  have hel : e < hp.objs.size := Heap.lt_size he
  have ht₄ : h₄.get? hp.objs.size = some { cls := .type "tuple", data := .seq #[.int i tk, x] } := by rw [← hh₄, ← hsz]; exact Heap.get?_push_size _ rfl
  have hz₄ : h₄.objs.size = hp.objs.size + 1 := by rw [← hh₄, Heap.size_push, hsz]
  have hk₄ : ∀ b o, b ≠ e → b ≠ it → hp.get? b = some o → h₄.get? b = some o := fun b o hbe hbi hb => by
    rw [← hh₄]; exact Heap.get?_push_of_some _ (hs₃.extBut b o hbe (hs₂.extBut b o hbe (hs₁.extBut b o hbi hb)))
  have hit₄ : h₄.IsTupleIter it l (i + 1) := by
    rw [← hh₄]; obtain ⟨o, ho, r⟩ := (hit₁.extBut hs₂.extBut (Ne.symm hne)).extBut hs₃.extBut (Ne.symm hne); exact ⟨o, Heap.get?_push_of_some _ ho, r⟩
  show wpAny _ _ (Builtin.SmallTypes.ownedTupleIsFree (.ref e) >>= _) _ _ ⟨h₄, g, d, tk + 1, os⟩
  rw [hsz]
  clear hh₄ he₃ hs₃ he₂ hs₂ he₁ hs₁ hit₁ hsz h₃ h₂ h₁
  refine wpAny_bind ?_
  · unfold Builtin.SmallTypes.ownedTupleIsFree
    refine wpAny_bind (wpAny_field he₄ rfl (x := .none) rfl (wpAny_pure ?_))
    simp only [if_true]
    refine wpAny_bind (wpAny_rule ?_)
    refine wpAny_bind (wpAny_field he₄ rfl (x := old) rfl ?_)
    refine wpAny_bind (wpAny_setField_rec he₄ (by simp) fun h₅ he₅ hs₅ => ?_)
    replace hs₅ : Heap.SameBut e h₄ h₅ := hs₅
    replace he₅ : IsEnum h₅ e it ((i : Int) + 1) x := he₅
    show wpAny _ _ (Builtin.SmallTypes.ownedTupleHandOut (.ref e) (.ref hp.objs.size) >>= _) _ _ ⟨h₅, g, d, tk + 1, os⟩
    refine wpAny_bind ?_
    · unfold Builtin.SmallTypes.ownedTupleHandOut
      refine wpAny_bind (wpAny_setField_rec he₅ (by simp) fun h₆ he₆ hs₆ => ?_)
      replace hs₆ : Heap.SameBut e h₅ h₆ := hs₆
      replace he₆ : IsEnumOut h₆ e it ((i : Int) + 1) x hp.objs.size := he₆
      refine wpAny_setField_rec he₆ (by simp) fun h₇ he₇ hs₇ => ?_
      replace hs₇ : Heap.SameBut e h₆ h₇ := hs₇
      replace he₇ : IsEnumOut h₇ e it ((i : Int) + 1) x hp.objs.size := he₇
      refine wpAny_bind (wpAny_letGo (wpAny_pure ⟨_, rfl, hQ h₇ he₇ ?_ ?_ ?_ ?_⟩))
      · exact ((hit₄.extBut hs₅.extBut (Ne.symm hne)).extBut hs₆.extBut (Ne.symm hne)).extBut hs₇.extBut (Ne.symm hne)
      · exact hs₇.extBut _ _ (Nat.ne_of_gt hel) (hs₆.extBut _ _ (Nat.ne_of_gt hel) (hs₅.extBut _ _ (Nat.ne_of_gt hel) ht₄))
      · rw [hs₇.1, hs₆.1, hs₅.1, hz₄]
      · exact fun b o hbe hbi hb => hs₇.extBut b o hbe (hs₆.extBut b o hbe (hs₅.extBut b o hbe (hk₄ b o hbe hbi hb)))
theorem next_enumT {e it l : Addr} {i : Nat} {items : Array Value} {x old : Value} {Q : Option Value → Shared → Prop}
    (he : IsEnum s.heap e it i old) (hit : s.heap.IsTupleIter it l i) (hl : s.heap.IsTuple l items) (hx : items[i]? = some x) (hne : e ≠ it)
    (hQ : ∀ h', IsEnumOut h' e it ((i : Int) + 1) x s.heap.objs.size → h'.IsTupleIter it l (i + 1) →
      h'.get? s.heap.objs.size = some { cls := .type "tuple", data := .seq #[.int i s.toks, x] } → h'.objs.size = s.heap.objs.size + 1 →
      (∀ b o, b ≠ e → b ≠ it → s.heap.get? b = some o → h'.get? b = some o) → Q (some (.ref s.heap.objs.size)) { s with heap := h', toks := s.toks + 1 }) :
    wpAny (model prog w) A (pyNext (.ref e)) Q E s := by
  have hT : s.TypeIs (.ref e) "enumerate" := ⟨_, he, rfl⟩
  unfold pyNext
  exact wpAny_bind (wpAny_attempt (wpAny_callSpecial?_slot (name := Str.ofString "__next__") hT F.slot_enumerate_next
    (wpAny_call_entry F.slot_enumerate_next hT F.entry_enumerate_next
      (enum_itemT he hit hl hx hne fun h' a b c d k => wpAny_pure (hQ h' a b c d k)) (F.args_enumerate_next_1 _))))
theorem next_enumT_end {e it l : Addr} {i : Nat} {items : Array Value} {old : Value} {Q : Option Value → Shared → Prop} (hh : A.handled = none)
    (he : IsEnum s.heap e it i old) (hit : s.heap.IsTupleIter it l i) (hl : s.heap.IsTuple l items) (hx : items[i]? = none)
    (hQ : ∀ h', Heap.ExtBut it s.heap h' → Q none { s with heap := h' }) : wpAny (model prog w) A (pyNext (.ref e)) Q E s := by
  have hT : s.TypeIs (.ref e) "enumerate" := ⟨_, he, rfl⟩
  unfold pyNext
  refine wpAny_bind (wpAny_attempt (wpAny_callSpecial?_slot (name := Str.ofString "__next__") hT F.slot_enumerate_next
    (wpAny_call_entry F.slot_enumerate_next hT F.entry_enumerate_next ?_ (F.args_enumerate_next_1 _))))
  show wpAny _ _ (field (.ref e) 2 >>= _) _ _ _
  refine wpAny_bind (wpAny_field he rfl (x := .ref it) rfl ?_)
  refine wpAny_bind (nextOf_tuple_end hh hit hl hx fun h' x he' hx' => ?_)
  obtain ⟨o, ho, hc⟩ := hx'
  refine wpAny_bind (wpAny_isInstance (T := "StopIteration") (b := true) ⟨o, ho, hc⟩ isSubtype_stop ?_)
  exact wpAny_pure (hQ _ he')
end
/-- the tuple at a, each item in a new pair -/
def IteT (K : PySem.W.Frag) (a : Addr) : It :=
  ⟨fun i H => ∃ (xs : List V) (x : V), SqT K H a xs ∧ xs[i]? = some x, fun i H v H' => ∃ T x, v = .ref T ∧ H T = none ∧ H' = upd H T (.tup [.int (i : Nat), x]) ∧ ∀ xs, SqT K H a xs → xs[i]? = some x, fun i H => ∃ xs : List V, SqT K H a xs ∧ xs.length ≤ i⟩
theorem turn_enumT {P : Program} {w : World} {K : PySem.W.Frag} {elts : List Expr} {kk : Nat} {tpos : Pos} (a e it : Addr) :
    Turn P w K (.Tuple elts kk tpos) (IteT K a) [e, it] e (fun i h => (∃ old, IsEnum h e it ((i : Nat) : Int) old) ∧ h.IsTupleIter it a i ∧ e ≠ it) where
  mem := by simp
  obj := fun i h st b hb => by
    obtain ⟨⟨old, he⟩, ⟨o, ho, hc, hd⟩, _⟩ := st
    have e' : b = e ∨ b = it := by simpa using hb
    rcases e' with z | z
    · rw [z]; exact ⟨_, he, fun v q => nomatch q⟩
    · rw [z]; exact ⟨o, ho, fun v q => by rw [hd] at q; cases q⟩
  keep := fun i h h' st k => let ⟨⟨old, he⟩, hi, hne⟩ := st; ⟨⟨old, k e (by simp) _ he⟩, hi.at fun o q => k it (by simp) o q, hne⟩
  item := by
    intro X hP hw hK hc i pins s σ H E I hf st hg
    subst hP hw hK
    obtain ⟨⟨old, he⟩, hit, hne⟩ := st
    obtain ⟨xs, x, hq, hx⟩ := hg
    obtain ⟨its, rv, p, hz⟩ := I.tuple hq
    obtain ⟨u, hu, ru⟩ := rv.get hx
    have hel : e < s.heap.objs.size := Heap.lt_size he
    have hil : it < s.heap.objs.size := by obtain ⟨_, q, _⟩ := hit; exact Heap.lt_size q
    refine next_enumT he hit (show s.heap.IsTuple a its.toArray from p) (x := u) (by simpa using hu) hne fun h' ho hit' hT hsz hk => ?_
    refine ⟨_, rfl, wpAny_letOwnedTupleGo_enum (s := { s with heap := h', toks := s.toks + 1 }) ho fun h'' he' sb => ?_⟩
    have hT2 : h''.get? s.heap.objs.size = some { cls := .type "tuple", data := .seq #[.int i s.toks, u] } := (sb.2 _ (Nat.ne_of_gt hel)).trans hT
    have new : ObjOk X.prog X.w (upd H s.heap.objs.size (.tup [.int (i : Nat), x])) h'' s.heap.objs.size (.tup [.int (i : Nat), x]) :=
      ⟨by show 2 ≤ sizeLine; decide, [.int i s.toks, u], .cons ⟨_, rfl⟩ (.cons ru .nil), ⟨_, hT2, rfl, _, rfl⟩⟩
    have I1 : Inv X pins σ (upd H s.heap.objs.size (.tup [.int (i : Nat), x])) { s with heap := h'', toks := s.toks + 1 } :=
      I.turnedNew (ch := [e, it]) (fun b ob hb q => (sb.2 b (fun z => hb (by simp [z]))).trans (hk b ob (fun z => hb (by simp [z])) (fun z => hb (by simp [z])) q)) hf (Nat.le_refl _) new
    refine ⟨.ref s.heap.objs.size, _, I1, rfl, ⟨_, x, rfl, I.hok.fresh (Nat.le_refl _), rfl, fun ys hy => by rw [I.tuple_inj hy hq]; exact hx⟩, ⟨⟨u, ?_⟩, hit'.at fun o q => (sb.2 it (Ne.symm hne)).trans q, hne⟩, fun b hb => ?_⟩
    · have e1 : ((i + 1 : Nat) : Int) = (i : Int) + 1 := by omega
      rw [e1]; exact he'
    · have hb' : b < s.heap.objs.size := by
        have e' : b = e ∨ b = it := by simpa using hb
        rcases e' with z | z
        · rw [z]; exact hel
        · rw [z]; exact hil
      rw [upd_ne (Nat.ne_of_lt hb')]
      exact (hf b hb).1
  done := by
    intro X hP hw hK hc i pins s σ H E I hf st hg
    subst hP hw hK
    obtain ⟨⟨old, he⟩, hit, hne⟩ := st
    obtain ⟨xs, hq, hx⟩ := hg
    obtain ⟨its, rv, p, hz⟩ := I.tuple hq
    obtain ⟨f0, f1, f2, f3, f4, f5⟩ := hf it (by simp)
    have hl := rv.length
    exact next_enumT_end (I.ok.hd hc) he hit (show s.heap.IsTuple a its.toArray from p) (by simp; omega) fun h' eb => ⟨rfl, I.turned (t' := s.toks) (fun b o hb q => eb b o hb q) f0 f1 f3 f4 f5⟩
  self := fun A i s Q E st h => let ⟨⟨_, he⟩, _⟩ := st; wpAny_pyIter_enum he h
def iEnumA (K : PySem.W.Frag) (ta : TE) : TI := fun σ H R => ta σ H fun x H1 => ∃ a xs, x = .ref a ∧ ((SqL K H1 a xs ∧ R (Ite K a) H1) ∨ (SqT K H1 a xs ∧ R (IteT K a) H1))
theorem pi_enumA {X : Cx} {e : Expr} {ta : TE} {p pos tpos : Pos} {elts : List Expr} {kk : Nat} (hg : Gl X "enumerate") (hm : X.mg "enumerate" = none) (ha : PE X e ta) (hs : starEach [e] X.env = (false, eval e X.env) :: starEach [] X.env := by rfl) :
    PI X (.Tuple elts kk tpos) (.Call (.Name "enumerate" p) [e] [] pos) (iEnumA X.K ta) := by
  refine ⟨fun pins s σ H R I h => ?_⟩
  refine Call_ (ld_blt I hg hm boot_enumerate (PyProof.Rows.callWith_type1 (one_arg ha I h (fun v s1 x H1 I1 r1 q1 => ?_) hs) hs))
  obtain ⟨a, xs, ex, q1⟩ := q1
  subst ex
  cases r1
  have fresh : ∀ b ∈ [s1.heap.objs.size + 1, s1.heap.objs.size], FpOk X pins H1 b := fun b hb => by
    have e' : b = s1.heap.objs.size + 1 ∨ b = s1.heap.objs.size := by simpa using hb
    have hle : s1.heap.objs.size ≤ b := by
      rcases e' with z | z
      · rw [z]; exact Nat.le_add_right _ _
      · rw [z]; exact Nat.le_refl _
    exact I1.fpOk hle (I1.hok.fresh hle)
  rcases q1 with ⟨hq, q⟩ | ⟨hq, q⟩
  · obtain ⟨its, rv, p', hz⟩ := I1.list hq
    refine call_enumerate_list p'.isList fun h' he hit hsz hk => wpAny_pyIter_enum he ?_
    have I2 : Inv X pins σ H1 { s1 with heap := h' } := I1.kept (t' := s1.toks) hk
    exact ⟨s1.heap.objs.size + 1, [s1.heap.objs.size + 1, s1.heap.objs.size], _, _, H1, rfl, I2, turn_enum a (s1.heap.objs.size + 1) s1.heap.objs.size, ⟨⟨.none, he⟩, hit, Nat.succ_ne_self _⟩, fresh, q⟩
  · obtain ⟨its, rv, p', hz⟩ := I1.tuple hq
    refine call_enumT (show s1.heap.IsTuple a its.toArray from p') fun h' he hit hsz hk => wpAny_pyIter_enum he ?_
    have I2 : Inv X pins σ H1 { s1 with heap := h' } := I1.kept (t' := s1.toks) hk
    exact ⟨s1.heap.objs.size + 1, [s1.heap.objs.size + 1, s1.heap.objs.size], _, _, H1, rfl, I2, turn_enumT a (s1.heap.objs.size + 1) s1.heap.objs.size, ⟨⟨.none, he⟩, hit, Nat.succ_ne_self _⟩, fresh, q⟩
end DL

set_option Elab.async false
set_option linter.all false
set_option maxRecDepth 100000
set_option maxHeartbeats 4000000
namespace DL
open PySem PySem.Spec PyProof.Rows L2 RZ

theorem enumD_get : ∀ (ds : List D) (n i : Nat), (enumD n ds)[i]? = (ds[i]?).map fun d => D.tup [.int (n + i : Nat), d]
  | [], n, i => by simp [enumD]
  | d :: ds, n, 0 => by simp [enumD]
  | d :: ds, n, i + 1 => by
    rw [enumD, List.getElem?_cons_succ, List.getElem?_cons_succ, enumD_get ds (n + 1) i]
    have e : n + 1 + i = n + (i + 1) := by omega
    rw [e]
theorem enumD_length (ds : List D) (n : Nat) : (enumD n ds).length = ds.length := by
  induction ds generalizing n with
  | nil => rfl
  | cons d ds ih => rw [enumD, List.length_cons, List.length_cons, ih]
section
variable {K : PySem.W.Frag} {Xs M M' : Ad} {H H' : Hp} {a : Addr} {vs : List V} {ds : List D}
theorem SeqL.st (h : SeqL K (Fb Xs M) H a vs) (st : Step M H M' H') : SeqL K (Fb Xs M') H' a vs := h.moveT (fun b u n e t => st.ext b u (fun z => n (.inr z)) e t) st.fb
theorem SeqT.st (h : SeqT K (Fb Xs M) H a vs) (st : Step M H M' H') : SeqT K (Fb Xs M') H' a vs := h.moveT (fun b u n e t => st.ext b u (fun z => n (.inr z)) e t) st.fb
/-- a new pair of values -/
theorem rep_pair {T : Addr} {x y : V} {d e : D} (tr : Trk (Fb Xs M) H) (n : H T = none) (hx : Rep K (Fb Xs M) H x d) (hy : Rep K (Fb Xs M) H y e) : Rep K (Fb Xs M) (upd H T (.tup [x, y])) (.ref T) (.tup [d, e]) :=
  Rep.tup (.inl ⟨.inl upd_same, fun z => tr T z n⟩) (repL_new (RepL.cons hx (RepL.cons hy RepL.nil)) n)
theorem it_enumL (h : SeqL K (Fb Xs M) H a vs) (r : RepL K (Fb Xs M) H vs ds) : ItOk K Xs (Ite K a) (enumD 0 ds) M H := by
  intro M' H' st tr i
  have h' := h.st st
  have r' := r.step st
  refine ⟨fun d e => ?_, fun e => ⟨vs, h'.sq, by rw [r'.length]; rw [enumD_length] at e; exact e⟩⟩
  rw [enumD_get] at e
  obtain ⟨d0, e0, rfl⟩ := Option.map_eq_some_iff.mp e
  obtain ⟨v, e1, e2⟩ := r'.get' e0
  refine ⟨⟨vs, v, h'.sq, e1⟩, fun x H'' y => ?_⟩
  obtain ⟨T, x0, rfl, n, rfl, q⟩ := y
  have := q vs h'.sq
  rw [e1] at this
  cases this
  rw [Nat.zero_add]
  exact ⟨.inr ⟨T, _, n, rfl⟩, rep_pair tr n (Rep.int _) e2⟩
theorem it_enumT (h : SeqT K (Fb Xs M) H a vs) (r : RepL K (Fb Xs M) H vs ds) : ItOk K Xs (IteT K a) (enumD 0 ds) M H := by
  intro M' H' st tr i
  have h' := h.st st
  have r' := r.step st
  refine ⟨fun d e => ?_, fun e => ⟨vs, h'.sq, by rw [r'.length]; rw [enumD_length] at e; exact e⟩⟩
  rw [enumD_get] at e
  obtain ⟨d0, e0, rfl⟩ := Option.map_eq_some_iff.mp e
  obtain ⟨v, e1, e2⟩ := r'.get' e0
  refine ⟨⟨vs, v, h'.sq, e1⟩, fun x H'' y => ?_⟩
  obtain ⟨T, x0, rfl, n, rfl, q⟩ := y
  have := q vs h'.sq
  rw [e1] at this
  cases this
  rw [Nat.zero_add]
  exact ⟨.inr ⟨T, _, n, rfl⟩, rep_pair tr n (Rep.int _) e2⟩
theorem it_revL (h : SeqL K (Fb Xs M) H a vs) (r : RepL K (Fb Xs M) H vs ds) : ItOk K Xs (Itv K a vs.length) ds.reverse M H := by
  intro M' H' st tr i
  have h' := h.st st
  have r' := r.step st
  have hl := r'.length
  refine ⟨fun d e => ?_, fun e => ?_⟩
  · have hi : i < ds.length := by have := (List.getElem?_eq_some_iff.mp e).1; simpa using this
    rw [List.getElem?_reverse hi] at e
    obtain ⟨v, e1, e2⟩ := r'.get' e
    have e1' : vs[vs.length - 1 - i]? = some v := by rw [hl]; exact e1
    refine ⟨⟨by omega, vs, v, h'.sq, e1'⟩, fun x H'' y => ?_⟩
    obtain ⟨e3, y⟩ := y
    have := y vs h'.sq
    rw [e1'] at this
    cases this
    exact ⟨.inl e3, by rw [e3]; exact e2⟩
  · rw [List.length_reverse] at e
    show vs.length ≤ i
    omega
theorem it_revT (h : SeqT K (Fb Xs M) H a vs) (r : RepL K (Fb Xs M) H vs ds) : ItOk K Xs (RT.ItvT K a vs.length) ds.reverse M H := by
  intro M' H' st tr i
  have h' := h.st st
  have r' := r.step st
  have hl := r'.length
  refine ⟨fun d e => ?_, fun e => ?_⟩
  · have hi : i < ds.length := by have := (List.getElem?_eq_some_iff.mp e).1; simpa using this
    rw [List.getElem?_reverse hi] at e
    obtain ⟨v, e1, e2⟩ := r'.get' e
    have e1' : vs[vs.length - 1 - i]? = some v := by rw [hl]; exact e1
    refine ⟨⟨by omega, vs, v, h'.sq, e1'⟩, fun x H'' y => ?_⟩
    obtain ⟨e3, y⟩ := y
    have := y vs h'.sq
    rw [e1'] at this
    cases this
    exact ⟨.inl e3, by rw [e3]; exact e2⟩
  · rw [List.length_reverse] at e
    show vs.length ≤ i
    omega
end
section
variable {X : Cx} {W : WX} {xi : XI} {Γ : Gam} {tg : Expr}
theorem pid_enum {elts : List Expr} {kk : Nat} {tpos p pos : Pos} {e : Expr} {e' : E} (hg : Gl X "enumerate") (hm : X.mg "enumerate" = none) (h : PD X W xi e (evX Γ e')) (hs : notStar e = true) : PID X W xi (.Tuple elts kk tpos) (.Call (.Name "enumerate" p) [e] [] pos) (evI Γ 4 [e']) := by
  obtain ⟨t, ht, q⟩ := h.ex
  refine ⟨_, pi_enumA hg hm ht (starEach_cons hs), fun Xs σ H l M Q r g => ?_⟩
  unfold evI at g
  rw [evDs_one] at g
  refine q Xs σ H l M _ r (g.bind.bind.imp fun s l1 M1 H1 st1 rl1 g1 v rv => ?_)
  obtain ⟨M1', hm, rl1', rv'⟩ := RepR.frozen rl1 rv
  have g2 := (g1 M1 H1 Step.refl rl1).shift (Step.refl.less hm)
  dsimp only at g2
  cases ed : s.d with
  | lst ds =>
    rw [ed] at g2 rv'
    rw [Rep] at rv'
    obtain ⟨a, vs, rfl, h1, h2⟩ := rv'
    exact ⟨a, vs, rfl, .inl ⟨h1.sq, g2 M1' H1 Step.refl rl1' _ (it_enumL h1 h2)⟩⟩
  | tup ds =>
    rw [ed] at g2 rv'
    rw [Rep] at rv'
    obtain ⟨a, vs, rfl, h1, h2⟩ := rv'
    exact ⟨a, vs, rfl, .inr ⟨h1.sq, g2 M1' H1 Step.refl rl1' _ (it_enumT h1 h2)⟩⟩
  | non => rw [ed] at g2; exact g2.elim
  | bl b => rw [ed] at g2; exact g2.elim
  | int b => rw [ed] at g2; exact g2.elim
  | str b => rw [ed] at g2; exact g2.elim
theorem pid_rev {p pos : Pos} {e : Expr} {e' : E} (hg : Gl X "reversed") (hm : X.mg "reversed" = none) (h : PD X W xi e (evX Γ e')) (hs : notStar e = true) : PID X W xi tg (.Call (.Name "reversed" p) [e] [] pos) (evI Γ 5 [e']) := by
  obtain ⟨t, ht, q⟩ := h.ex
  refine ⟨_, RT.pi_revA hg hm ht (starEach_cons hs), fun Xs σ H l M Q r g => ?_⟩
  unfold evI at g
  rw [evDs_one] at g
  refine q Xs σ H l M _ r (g.bind.bind.imp fun s l1 M1 H1 st1 rl1 g1 v rv => ?_)
  obtain ⟨M1', hm, rl1', rv'⟩ := RepR.frozen rl1 rv
  have g2 := (g1 M1 H1 Step.refl rl1).shift (Step.refl.less hm)
  dsimp only at g2
  cases ed : s.d with
  | lst ds =>
    rw [ed] at g2 rv'
    rw [Rep] at rv'
    obtain ⟨a, vs, rfl, h1, h2⟩ := rv'
    exact ⟨a, vs, rfl, .inl ⟨h1.sq, g2 M1' H1 Step.refl rl1' _ (it_revL h1 h2)⟩⟩
  | tup ds =>
    rw [ed] at g2 rv'
    rw [Rep] at rv'
    obtain ⟨a, vs, rfl, h1, h2⟩ := rv'
    exact ⟨a, vs, rfl, .inr ⟨h1.sq, g2 M1' H1 Step.refl rl1' _ (it_revT h1 h2)⟩⟩
  | non => rw [ed] at g2; exact g2.elim
  | bl b => rw [ed] at g2; exact g2.elim
  | int b => rw [ed] at g2; exact g2.elim
  | str b => rw [ed] at g2; exact g2.elim
end
end DL

set_option Elab.async false
set_option linter.all false
set_option maxRecDepth 100000
set_option maxHeartbeats 4000000
namespace DL
open PySem PySem.Spec PyProof.Rows L2 GenW GxR

/-! ## sorted of a generator expression -/
def tSortG (K : PySem.W.Frag) (tg : TGen) : TE := fun σ H Q => tg σ H fun out H2 => ∃ (F : Ad) (ds : List D), RepL K F H2 out ds ∧ srtOk ds = true ∧ ∀ S p ys, H2 S = none → upd H2 S (.lst out) p = none → RepL K F (upd H2 S (.lst out)) ys (srtD ds) → Q (.ref p) (upd (upd H2 S (.lst out)) p (.lst ys))
section
variable {X : Cx} {k : Nat} {e : Expr} {tg : TGen} {nm : Str} {p pos : Pos}
theorem pe_sortG (h : PGen X k e tg noX) (hr : Room (k + 5) X.A) (hg : Gl X nm) (hmg : X.mg nm = none) (hv : bootBuiltins nm = some (.builtin "sorted")) (hnm : nm ≠ "__name__" := by decide) (hdb : (nm == ("__debug__" : Str)) = false := by decide)
    (he : starEach [e] X.env = (false, eval e X.env) :: starEach [] X.env := by rfl) : PE X (.Call (.Name nm p) [e] [] pos) (tSortG X.K tg) := by
  refine ⟨fun pins s σ H Q I hq => wpAny_Call_Name_kw (ld_blt I hg hmg hv ?_ hnm hdb)⟩
  refine PyProof.Rows.callWith_builtin1 ?_ he rfl
  rw [he]
  show wpAny _ _ (spliced ((false, eval e X.env) :: backTo pos (starEach [] X.env))) _ _ s
  refine Calls.spliced_cons (thn (h.run pins s σ H _ I hq) fun u s1 hu => ?_)
  obtain ⟨H1, sc, ex, I1, hex, hG⟩ := hu
  refine Calls.spliced_nil ?_
  have hsz : sc.heap.objs.size ≤ s1.heap.objs.size := by
    obtain ⟨a, g, c, _, h1, h2, _⟩ := hG
    exact Nat.le_trans h1 (Nat.le_of_lt h2)
  have hr1 : Room (k + 3) X.A.in1 := (Room.in1 (k := k + 4) hr).mono (by omega)
  refine sorted_coll (collect_gm hr1 I1.ok.frames hG fun S s' acc hd => ?_)
  obtain ⟨c, H', ys, q0, q1, q2, hl, q3, q4, q5, q6, q7, q8⟩ := hd
  have J := I1.drained (Nat.le_trans hsz q0) hl q1 q2 hex q3 q4 q5 q6 q7
  obtain ⟨F, ds, rd, ok, q9⟩ := q8
  exact sort_in J hr.units q2 (repL_new rd q7) hl ok fun p zs n r => q9 S p zs q7 n r
end
section
variable {X : Cx} {W : WX} {xi : XI} {Γ : Gam}
theorem evX_p1 (Γ : Gam) (p : Prim) (a' : E) (l : Loc) : evX Γ (.prim p [a']) l = (evA1 Γ a' l).bind fun r => match res r.2 r.1 with
    | some d => (match primD p [d] with
      | some s => .ok (s, r.2)
      | none => .bad)
    | none => .bad := by
  rw [evX.eq_def]
  dsimp only
  rw [evAs_one]
  cases evA1 Γ a' l with
  | ok r2 =>
    simp only [R.bind, resL]
    cases res r2.2 r2.1 <;> rfl
  | exc x l => rfl
  | bad => rfl
theorem evX_p2 (Γ : Gam) (p : Prim) (a' b' : E) (l : Loc) : evX Γ (.prim p [a', b']) l = ((evA1 Γ a' l).bind fun r => (evA1 Γ b' r.2).bind fun r2 => .ok ([r.1, r2.1], r2.2)).bind fun r => match resL r.2 r.1 with
    | some ds => (match primD p ds with
      | some s => .ok (s, r.2)
      | none => .bad)
    | none => .bad := by
  rw [evX.eq_def]
  dsimp only
  rw [evAs_cons]
  cases evA1 Γ a' l with
  | ok r2 =>
    dsimp only [R.bind]
    rw [evAs_one]
    cases evA1 Γ b' r2.2 <;> rfl
  | exc x l => rfl
  | bad => rfl
theorem rgV_rep {K : PySem.W.Frag} {F : Ad} {H : Hp} (a b : Int) : RepL K F H (rgV a b) (rgD a b) := by
  unfold rgV rgD
  generalize (b - a).toNat = n
  have : ∀ l : List Nat, RepL K F H (l.map fun i => V.int (a + (i : Nat))) (l.map fun i => D.int (a + (i : Nat))) := fun l => by
    induction l with
    | nil => exact RepL.nil
    | cons x l ih => exact RepL.cons (Rep.int _) ih
  exact this _
theorem RgOk.of {a b : Int} (h : rgOk a b = true) : RgOk a b := rgOk_iff h
/-- what list(range(n)), tuple(range(n)) come to -/
theorem rg1_core {a : Expr} {a' : E} {p : Prim} (hp : p = .rgl ∨ p = .rgt) (ha : PAD X W xi a (evA1 Γ a')) : ∃ ta, PE X a ta ∧ ∀ (Xs : Ad) (σ : L2.St) (H : Hp) (l : Loc) (M : Ad) (Q : VK), RepLoc xi.tb X.K Xs M σ H l →
    Po ⟨X.K, Xs, W, xi, σ⟩ M H (fun s l' M' H' => ∀ v, RepR X.K Xs M' σ l' H' v s → Q v H') (evX Γ (.prim p [a']) l) → ta σ H fun x H1 => ∃ n, x = .int n ∧ RgOk 0 n ∧ ∀ q, H1 q = none → if p = .rgl then Q (.ref q) (upd H1 q (.lst (rgV 0 n))) else Q (.ref q) (upd H1 q (.tup (rgV 0 n))) := by
  obtain ⟨t, ht, q⟩ := ha.ex
  refine ⟨t, ht, fun Xs σ H l M Q r g => ?_⟩
  rw [evX_p1] at g
  refine q Xs σ H l M _ r (g.bind.imp fun a l1 M1 H1 st1 rl1 g1 v rv => ?_)
  dsimp only at g1
  cases e1 : res l1 a with
  | none => rw [e1] at g1; exact g1.elim
  | some d =>
    rw [e1] at g1
    dsimp only at g1
    have pk := RepA.pk (C := ⟨X.K, Xs, W, xi, σ⟩) rl1 rv e1
    cases e2 : primD p [d] with
    | none => rw [e2] at g1; exact g1.elim
    | some z =>
      rw [e2] at g1
      have fp := fin_of (C := ⟨X.K, Xs, W, xi, σ⟩) rl1 g1 fun z => primD_un (e2.trans (congrArg some z))
      have tr := rl1.tr (C := ⟨X.K, Xs, W, xi, σ⟩)
      rcases hp with rfl | rfl
      · cases d <;> simp only [primD] at e2 <;> first | cases e2 | skip
        split at e2 <;> cases e2
        rename_i n hz
        refine ⟨n, pk.int', RgOk.of hz, fun q hq => ?_⟩
        rw [if_pos rfl]
        exact fp q _ hq (rgV_rep 0 n)
      · cases d <;> simp only [primD] at e2 <;> first | cases e2 | skip
        split at e2 <;> cases e2
        rename_i n hz
        refine ⟨n, pk.int', RgOk.of hz, fun q hq => ?_⟩
        rw [if_neg (by decide)]
        exact FinP.tup tr fp (rgV_rep 0 n) q hq
theorem rg2_core {a b : Expr} {a' b' : E} {p : Prim} (hp : p = .rgl ∨ p = .rgt) (ha : PAD X W xi a (evA1 Γ a')) (hb : PAD X W xi b (evA1 Γ b')) : ∃ ta tb, PE X a ta ∧ PE X b tb ∧ ∀ (Xs : Ad) (σ : L2.St) (H : Hp) (l : Loc) (M : Ad) (Q : VK), RepLoc xi.tb X.K Xs M σ H l →
    Po ⟨X.K, Xs, W, xi, σ⟩ M H (fun s l' M' H' => ∀ v, RepR X.K Xs M' σ l' H' v s → Q v H') (evX Γ (.prim p [a', b']) l) → ta σ H fun x H1 => tb σ H1 fun y H2 => ∃ i j, x = .int i ∧ y = .int j ∧ RgOk i j ∧ ∀ q, H2 q = none → if p = .rgl then Q (.ref q) (upd H2 q (.lst (rgV i j))) else Q (.ref q) (upd H2 q (.tup (rgV i j))) := by
  obtain ⟨ta, hta, qa⟩ := ha.ex
  obtain ⟨tb, htb, qb⟩ := hb.ex
  refine ⟨ta, tb, hta, htb, fun Xs σ H l M Q r g => ?_⟩
  rw [evX_p2] at g
  refine qa Xs σ H l M _ r (g.bind.bind.imp fun a l1 M1 H1 st1 rl1 g1 v rv => ?_)
  refine qb Xs σ H1 l1 M1 _ rl1 (g1.bind.imp fun b l2 M2 H2 st2 rl2 g2 w rw' => ?_)
  have g2 := g2 M2 H2 Step.refl rl2
  dsimp only at g2
  have rv2 := RepA.step (C := ⟨X.K, Xs, W, xi, σ⟩) st2 rv
  cases e1 : resL l2 [a, b] with
  | none => rw [e1] at g2; exact g2.elim
  | some ds =>
    rw [e1] at g2
    dsimp only at g2
    have pk : PkL X.K (Fb Xs M2) H2 [v, w] ds := RepAs.pk (C := ⟨X.K, Xs, W, xi, σ⟩) (as := [a, b]) (vs := [v, w]) rl2 ⟨rv2, rw', trivial⟩ e1
    cases e2 : primD p ds with
    | none => rw [e2] at g2; exact g2.elim
    | some z =>
      rw [e2] at g2
      have fp := fin_of (C := ⟨X.K, Xs, W, xi, σ⟩) rl2 g2 fun z => primD_un (e2.trans (congrArg some z))
      have tr := rl2.tr (C := ⟨X.K, Xs, W, xi, σ⟩)
      match ds, pk with
      | [d, e], pk =>
        obtain ⟨p1, p2, _⟩ := pk
        rcases hp with rfl | rfl
        · cases d <;> cases e <;> simp only [primD] at e2 <;> first | cases e2 | skip
          split at e2 <;> cases e2
          rename_i i j hz
          refine ⟨i, j, p1.int', p2.int', RgOk.of hz, fun q hq => ?_⟩
          rw [if_pos rfl]
          exact fp q _ hq (rgV_rep i j)
        · cases d <;> cases e <;> simp only [primD] at e2 <;> first | cases e2 | skip
          split at e2 <;> cases e2
          rename_i i j hz
          refine ⟨i, j, p1.int', p2.int', RgOk.of hz, fun q hq => ?_⟩
          rw [if_neg (by decide)]
          exact FinP.tup tr fp (rgV_rep i j) q hq
def rgP (x : Str) : Option Prim := if x == ("list" : Str) then some .rgl else if x == ("tuple" : Str) then some .rgt else none
theorem pd_rg1 {a : Expr} {a' : E} {p : Prim} {x : Str} {px pos px2 pos2 : Pos} (hc : X.calm = true) (hx : rgP x = some p) (hg : Gl X x) (hm : X.mg x = none) (hg2 : Gl X "range") (hm2 : X.mg "range" = none) (ha : PAD X W xi a (evA1 Γ a')) (na : notStar a = true) :
    PD X W xi (.Call (.Name x px) [.Call (.Name "range" px2) [a] [] pos2] [] pos) (evX Γ (.prim p [a'])) := by
  unfold rgP at hx
  split at hx
  · rename_i hx1
    have := eq_of_beq hx1
    subst this
    cases hx
    obtain ⟨ta, h1, q⟩ := rg1_core (p := .rgl) (.inl rfl) ha
    exact ⟨_, pe_listRg hc hg hm (prg_1 hg2 hm2 h1 (starEach_cons na)) rfl, fun Xs σ H l M Q r g => by
      have := q Xs σ H l M Q r g
      simp only [if_true] at this
      exact this⟩
  split at hx
  · rename_i hx1
    have := eq_of_beq hx1
    subst this
    cases hx
    obtain ⟨ta, h1, q⟩ := rg1_core (p := .rgt) (.inr rfl) ha
    exact ⟨_, pe_tupRg hc hg hm (prg_1 hg2 hm2 h1 (starEach_cons na)) rfl, fun Xs σ H l M Q r g => by
      have := q Xs σ H l M Q r g
      simp only [reduceCtorEq, if_false] at this
      exact this⟩
  · cases hx
theorem pd_rg2 {a b : Expr} {a' b' : E} {p : Prim} {x : Str} {px pos px2 pos2 : Pos} (hc : X.calm = true) (hx : rgP x = some p) (hg : Gl X x) (hm : X.mg x = none) (hg2 : Gl X "range") (hm2 : X.mg "range" = none) (ha : PAD X W xi a (evA1 Γ a')) (hb : PAD X W xi b (evA1 Γ b')) (na : notStar a = true) (nb : notStar b = true) :
    PD X W xi (.Call (.Name x px) [.Call (.Name "range" px2) [a, b] [] pos2] [] pos) (evX Γ (.prim p [a', b'])) := by
  have sb : (backTo pos2 (starEach [b] X.env)).any (·.1) = false := starEach_any (by rw [List.all_cons, nb]; rfl)
  unfold rgP at hx
  split at hx
  · rename_i hx1
    have := eq_of_beq hx1
    subst this
    cases hx
    obtain ⟨ta, tb, h1, h2, q⟩ := rg2_core (p := .rgl) (.inl rfl) ha hb
    exact ⟨_, pe_listRg hc hg hm (prg_2 hg2 hm2 h1 h2 (starEach_cons na) (starEach_cons nb) sb) rfl, fun Xs σ H l M Q r g => by
      have := q Xs σ H l M Q r g
      simp only [if_true] at this
      exact this⟩
  split at hx
  · rename_i hx1
    have := eq_of_beq hx1
    subst this
    cases hx
    obtain ⟨ta, tb, h1, h2, q⟩ := rg2_core (p := .rgt) (.inr rfl) ha hb
    exact ⟨_, pe_tupRg hc hg hm (prg_2 hg2 hm2 h1 h2 (starEach_cons na) (starEach_cons nb) sb) rfl, fun Xs σ H l M Q r g => by
      have := q Xs σ H l M Q r g
      simp only [reduceCtorEq, if_false] at this
      exact this⟩
  · cases hx
/-- a[::-1] -/
theorem pd_revsl {a : Expr} {a' : E} {c1 : Nat} {p1 p2 p3 pos : Pos} (ha : PAD X W xi a (evA1 Γ a')) : PD X W xi (.Subscript a (.Slice none none (some (.UnaryOp .USub (.Constant (.int 1) c1 p1) p2)) p3) pos) (evX Γ (.prim .rev [a'])) := by
  obtain ⟨t, ht, q⟩ := ha.ex
  refine ⟨_, pe_revsl ht (pe_un un_neg pe_int), fun Xs σ H l M Q r g => ?_⟩
  rw [evX_p1] at g
  refine q Xs σ H l M _ r (g.bind.imp fun a l1 M1 H1 st1 rl1 g1 v rv => ?_)
  dsimp only at g1
  cases e1 : res l1 a with
  | none => rw [e1] at g1; exact g1.elim
  | some d =>
    rw [e1] at g1
    dsimp only at g1
    have pk := RepA.pk (C := ⟨X.K, Xs, W, xi, σ⟩) rl1 rv e1
    cases e2 : primD .rev [d] with
    | none => rw [e2] at g1; exact g1.elim
    | some z =>
      rw [e2] at g1
      have fp := fin_of (C := ⟨X.K, Xs, W, xi, σ⟩) rl1 g1 fun z => primD_un (e2.trans (congrArg some z))
      have tr := rl1.tr (C := ⟨X.K, Xs, W, xi, σ⟩)
      refine ⟨1, rfl, ?_⟩
      refine ⟨rfl, ?_⟩
      cases d <;> simp only [primD] at e2 <;> cases e2
      · obtain ⟨a, vs, rfl, h1, h2⟩ := pk.tup'
        exact ⟨a, vs, rfl, .inr ⟨h1.sq, fun p n => FinP.tup tr fp h2.reverse p n⟩⟩
      · obtain ⟨a, vs, rfl, h1, h2⟩ := pk
        exact ⟨a, vs, rfl, .inl ⟨h1, fun p n => fp p _ n h2.reverse⟩⟩
end
end DL

set_option Elab.async false
set_option linter.all false
set_option maxRecDepth 100000
set_option maxHeartbeats 4000000
namespace DL
open PySem PySem.Spec PyProof.Rows L2

/-! ## a comprehension over a list that stays one's own -/
theorem RepLoc.hideOwn {tb : Ad} {K : PySem.W.Frag} {Xs M : Ad} {σ : L2.St} {H : Hp} {l : Loc} {a : Addr} (r : RepLoc tb K Xs M σ H l) (m : M a) (h : ¬ Owd l σ H a) : RepLoc tb K (Wx Xs a) (fun b => M b ∧ b ≠ a) σ H l := by
  have gr : ∀ b, Fb (Wx Xs a) (fun b => M b ∧ b ≠ a) b → Fb Xs M b := fun b z => by
    rcases z with (z | rfl) | z
    · exact .inl z
    · exact .inr m
    · exact .inr z.1
  refine r.same (fun _ _ _ e _ => e) (fun b z => .inl (gr b z)) (fun b z => ⟨⟨(r.owd_M z).1, fun e => h (by rw [← e]; exact z)⟩, fun _ e => e⟩) (fun b z => r.trk b (gr b z)) (fun b x z => ?_) r.tab
  rcases x with x | x
  · exact r.dis b x z.1
  · exact z.2 x
theorem Step.unhide {M M' : Ad} {H H' : Hp} {a : Addr} (m : M a) (s : Step (fun b => M b ∧ b ≠ a) H M' H') : Step M H (fun b => M' b ∨ b = a) H' where
  ext := fun b u n e t => s.ext b u (fun z => n z.1) e t
  non := s.non
  grow := fun b z => z.elim (fun z => (s.grow b z).elim (fun q => .inl q.1) .inr) fun e => .inl (by rw [e]; exact m)
  tab := s.tab
/-- .. of many places at once -/
abbrev Wp (Xs P : Ad) : Ad := fun a => Xs a ∨ P a
theorem fbp_same {Xs M P : Ad} {a : Addr} : Fb (Wp Xs P) M a ↔ Fb Xs (fun b => M b ∨ P b) a := by
  constructor
  · rintro ((x | x) | x)
    · exact .inl x
    · exact .inr (.inr x)
    · exact .inr (.inl x)
  · rintro (x | x | x)
    · exact .inl (.inl x)
    · exact .inr x
    · exact .inl (.inr x)
section
variable {tb : Ad} {K : PySem.W.Frag} {Xs M M' P : Ad} {σ : L2.St} {H H' : Hp} {l : Loc} {v : V} {s : Sl}
theorem RepLoc.giveP (r : RepLoc tb K (Wp Xs P) M σ H l) (nx : ∀ a, P a → ¬ Xs a) : RepLoc tb K Xs (fun b => M b ∨ P b) σ H l :=
  r.same (fun _ _ _ e _ => e) (fun b z => .inl (fbp_same.mpr z)) (fun a z => ⟨.inl (r.owd_M z).1, fun _ e => e⟩) (fun a z => r.trk a (fbp_same.mpr z)) (fun a x z => z.elim (r.dis a (.inl x)) fun e => nx a e x) r.tab
theorem RepLoc.hideP (r : RepLoc tb K Xs M σ H l) (m : ∀ a, P a → M a) (h : ∀ a, P a → ¬ Owd l σ H a) : RepLoc tb K (Wp Xs P) (fun b => M b ∧ ¬ P b) σ H l := by
  have gr : ∀ b, Fb (Wp Xs P) (fun b => M b ∧ ¬ P b) b → Fb Xs M b := fun b z => by
    rcases z with (z | z) | z
    · exact .inl z
    · exact .inr (m b z)
    · exact .inr z.1
  refine r.same (fun _ _ _ e _ => e) (fun b z => .inl (gr b z)) (fun b z => ⟨⟨(r.owd_M z).1, fun e => h b e z⟩, fun _ e => e⟩) (fun b z => r.trk b (gr b z)) (fun b x z => ?_) r.tab
  rcases x with x | x
  · exact r.dis b x z.1
  · exact z.2 x
theorem Step.unhideP (m : ∀ a, P a → M a) (s : Step (fun b => M b ∧ ¬ P b) H M' H') : Step M H (fun b => M' b ∨ P b) H' where
  ext := fun b u n e t => s.ext b u (fun z => n z.1) e t
  non := s.non
  grow := fun b z => z.elim (fun z => (s.grow b z).elim (fun q => .inl q.1) .inr) fun e => .inl (m b e)
  tab := s.tab
theorem RepS.giveP (h : RepS K (Wp Xs P) M H v s) : RepS K Xs (fun b => M b ∨ P b) H v s :=
  h.move (fun _ _ _ e _ => e) (fun b z => .inl (fbp_same.mpr z)) fun a o => ⟨.inl (h.ows_M o).1, fun _ e => e⟩
/-- what is hidden stays -/
theorem RepS.held (h : RepS K Xs M H v s) (st : Step (fun b => M b ∧ ¬ Ows H v s b) H M' H') : RepS K Xs (fun b => M' b ∨ Ows H v s b) H' v s ∧ ∀ a, Ows H' v s a ↔ Ows H v s a := by
  have k : ∀ a, Ows H v s a → ∀ ws, H a = some (.lst ws) → H' a = some (.lst ws) := fun a o ws e => st.lst (fun z => z.2 o) e
  have stu := Step.unhideP (P := Ows H v s) (fun a o => (h.ows_M o).1) st
  refine ⟨h.move (fun b u n e t => stu.ext b u (fun z => n (.inr z)) e t) stu.fb fun a o => ⟨.inr o, k a o⟩, fun a => ⟨fun o => o.back h k, fun o => ?_⟩⟩
  have h2 : RepS K Xs (fun b => M' b ∨ Ows H v s b) H' v s := h.move (fun b u n e t => stu.ext b u (fun z => n (.inr z)) e t) stu.fb fun a o => ⟨.inr o, k a o⟩
  cases s with
  | un => exact h.elim
  | val d => exact o.elim
  | own ds => exact o
  | nst cs =>
    obtain ⟨p, ws, rfl, e, q⟩ := o
    exact ⟨p, ws, rfl, k p ⟨p, ws, rfl, e, List.mem_cons_self⟩ ws e, q⟩
end
theorem Po.hide {α : Type} {K : PySem.W.Frag} {Xs : Ad} {W : WX} {xi : XI} {σ : L2.St} {M P : Ad} {H : Hp} {post : α → Loc → Ad → Hp → Prop} {r : R (α × Loc)} (m : ∀ a, P a → M a) (nx : ∀ a, P a → ¬ Xs a) (g : Po ⟨K, Xs, W, xi, σ⟩ M H post r) :
    Po ⟨K, Wp Xs P, W, xi, σ⟩ (fun b => M b ∧ ¬ P b) H (fun x l' M' H' => post x l' (fun b => M' b ∨ P b) H') r := by
  cases r with
  | bad => exact g
  | exc x l2 => exact fun cls d M2 H2 st2 rl2 hx => g cls d _ H2 (st2.unhideP m) (rl2.giveP nx) hx
  | ok r => exact fun M2 H2 st2 rl2 => g _ H2 (st2.unhideP m) (rl2.giveP nx)
/-- what some values own -/
def Owt (H : Hp) (vs : List V) (ss : List Sl) (a : Addr) : Prop := ∃ (j : Nat) (t : Sl) (w : V), ss[j]? = some t ∧ vs[j]? = some w ∧ Ows H w t a
theorem it_ownL {K : PySem.W.Frag} {Xs M : Ad} {H : Hp} {a : Addr} {vs : List V} {ds : List D} (nM : ¬ M a) (e : H a = some (.lst vs)) (r : RepL K (Fb Xs M) H vs ds) : ItOk K Xs (Itl K a) ds M H := by
  intro M' H' st tr i
  have h' : SqL K H' a vs := .inl (.inl (st.lst nM e))
  have r' := r.step st
  refine ⟨fun d e => ?_, fun e => ⟨vs, h', by rw [r'.length]; exact e⟩⟩
  obtain ⟨v, e1, e2⟩ := r'.get' e
  refine ⟨⟨vs, v, h', e1⟩, fun x H'' y => ⟨.inl y.1, ?_⟩⟩
  have := y.2 vs h'
  rw [e1] at this
  cases this
  rw [y.1]; exact e2
section
variable {X : Cx} {W : WX} {xi : XI} {Γ : Gam} {tg iter elt : Expr} {ifs : List Expr} {scope : Scope} {pr ws : List Nat} {t' : Tg} {e' : E} {fs : List E}
theorem pd_lc_pk {i : Nat} (hv : PE X iter (tVar i)) (hg : ∀ i, PGD (blkF X scope i) pr tg t') (ht : ∀ i, PTsD (blkF X scope i) W0 xi ifs (evTs Γ fs)) (he : ∀ i, PD (blkF X scope i) W0 xi elt (evX Γ e')) (hpr : ∀ i, i < X.N.length → i ∉ ws → i ∈ pr) :
    ∃ wi, PI X tg iter wi ∧ ∀ (Xs : Ad) (σ : L2.St) (H : Hp) (l : Loc) (M : Ad) (Q : VK), σ.length = X.N.length → RepLoc xi.tb X.K Xs M σ H l →
      Po ⟨X.K, Xs, W, xi, σ⟩ M H (fun s l' M' H' => ∀ v, RepR X.K Xs M' σ l' H' v s → Q v H') (evX Γ (.cpk e' t' i fs ws) l) → tLc wi (wGt (blkF X scope) tg) (wTs (blkF X scope) ifs) (wE (blkF X scope) elt) ws σ H Q := by
  refine ⟨iSeq X.K (tVar i), pi_seq hv, fun Xs σ H l M Q hσ r k => ?_⟩
  rw [evX.eq_def] at k
  dsimp only at k
  cases e : ownAt l i with
  | none => rw [e] at k; exact k.elim
  | some ds =>
    rw [e] at k
    dsimp only at k
    have ow := ownAt_some e
    obtain ⟨a, vs, g1, g2, g3, g4⟩ := r.own i ds ow
    have nx : ¬ Xs a := fun z => r.dis a z g2
    have na : ¬ Owd (l.set i .un) σ H a := r.only ow g1 rfl
    have rh := (r.unset i).hideOwn g2 na
    have gm : RepL X.K (Fb (Wx Xs a) fun b => M b ∧ b ≠ a) H vs ds := g4.mono fun b z => by
      rcases z with (z | rfl) | z
      · exact .inl z
      · exact .inr g2
      · exact .inr z.1
    refine lc_core1 (W := W) (Xs := Wx Xs a) (M := fun b => M b ∧ b ≠ a) (d := .ok (ds, l.set i .un)) hg ht he hpr hσ (fun R h => ?_) ?_
    · exact ⟨.ref a, g1, .inl ⟨a, rfl, ⟨vs, .inl (.inl g3)⟩, h _ H Step.refl rh (Itl X.K a) (it_ownL (fun z => z.2 rfl) g3 gm)⟩⟩
    · dsimp only [R.bind]
      cases ec : compL (bindT t') (evTs Γ fs) (evX Γ e') ws ds [] (wipeD (l.set i .un) ws) with
      | bad => rw [ec] at k; exact k
      | exc x l => rw [ec] at k; exact k
      | ok p =>
        obtain ⟨rs, l1⟩ := p
        rw [ec] at k
        dsimp only at k ⊢
        by_cases hil : i < l1.length
        · rw [if_pos hil] at k
          intro M2 H2 st2 rl2 v rv
          have na2 : ¬ M2 a := rl2.dis a (.inr rfl)
          have eH2 : H2 a = some (.lst vs) := st2.lst (fun z => z.2 rfl) g3
          have ri2 : RepL X.K (Fb Xs fun b => M2 b ∨ b = a) H2 vs ds := (RepL.step st2 gm).mono fun b z => fb_same.mpr z
          have rg := rl2.give nx
          have no2 : ¬ Owd l1 σ H2 a := fun z => na2 (rl2.owd_M z).1
          have rs2 := rg.set (v := .ref a) (s := .own ds) hil ⟨a, vs, rfl, .inr rfl, eH2, ri2, no2⟩
          have eσ : σ.set i (some (.ref a)) = σ := σ_set g1
          have rs3 : RepLoc xi.tb X.K Xs (fun b => M2 b ∨ b = a) σ H2 (l1.set i (.own ds)) := by rw [← eσ]; exact rs2
          obtain ⟨b, ws', rfl, q1, q2, q3, q4⟩ := rv
          refine k _ H2 (st2.unhide g2) rs3 _ ⟨b, ws', rfl, .inl q1, q2, q3.mono fun b z => fb_same.mpr z, fun z => ?_⟩
          obtain ⟨j, t, w, e1, e2, o⟩ := z
          by_cases hj : j = i
          · subst hj
            rw [List.getElem?_set_self hil] at e1
            cases e1
            have g1' : σ[j]? = some (some (V.ref a)) := g1
            rw [g1'] at e2
            cases e2
            have o : V.ref a = V.ref b := o
            cases o
            exact na2 q1
          · rw [List.getElem?_set_ne (Ne.symm hj)] at e1
            exact q4 ⟨j, t, w, e1, e2, o⟩
        · rw [if_neg hil] at k; exact k.elim
end
end DL

set_option Elab.async false
set_option linter.all false
set_option maxRecDepth 100000
set_option maxHeartbeats 4000000
namespace DL
open PySem PySem.Spec PyProof.Rows L2

/-! ## lists with own lists within: cells -/
section
variable {K : PySem.W.Frag} {X X' M M' : Ad} {H H' : Hp}
theorem RepC.move {v : V} {c : Cl} (r1 : RepC K X M H v c) (e : ∀ b u, ¬ Fb X M b → H b = some u → NT u → H' b = some u) (g : ∀ b, Fb X' M' b → Fb X M b ∨ H b = none) (o : ∀ a ∈ inn1 v c, M' a ∧ ∀ ws, H a = some (.lst ws) → H' a = some (.lst ws)) : RepC K X' M' H' v c := by
  cases c with
  | v d => exact Rep.moveT e g d v r1
  | o ds =>
    obtain ⟨b, ws, rfl, h1, h2, h3⟩ := r1
    obtain ⟨q1, q2⟩ := o b (List.mem_singleton.mpr rfl)
    exact ⟨b, ws, rfl, q1, q2 _ h2, RepL.moveT e g ds ws h3⟩
theorem RepCs.length : ∀ {vs : List V} {cs : List Cl}, RepCs K X M H vs cs → vs.length = cs.length
  | [], [], _ => rfl
  | v :: vs, c :: cs, r => by rw [List.length_cons, List.length_cons, RepCs.length r.2]
  | [], _ :: _, r => r.elim
  | _ :: _, [], r => r.elim
theorem RepCs.get : ∀ {vs : List V} {cs : List Cl} {n : Nat} {c : Cl}, RepCs K X M H vs cs → cs[n]? = some c → ∃ w, vs[n]? = some w ∧ RepC K X M H w c
  | [], [], n, c, _, e => by simp at e
  | v :: vs, d :: cs, 0, c, r, e => by simp at e; subst e; exact ⟨v, rfl, r.1⟩
  | v :: vs, d :: cs, n + 1, c, r, e => by
    obtain ⟨w, h1, h2⟩ := RepCs.get r.2 (show cs[n]? = some c by simpa using e)
    exact ⟨w, by simpa using h1, h2⟩
  | [], _ :: _, _, _, r, _ => r.elim
  | _ :: _, [], _, _, r, _ => r.elim
theorem RepCs.mk : ∀ {vs : List V} {cs : List Cl}, vs.length = cs.length → (∀ (n : Nat) w c, vs[n]? = some w → cs[n]? = some c → RepC K X M H w c) → RepCs K X M H vs cs
  | [], [], _, _ => trivial
  | v :: vs, c :: cs, hl, h => ⟨h 0 v c rfl rfl, RepCs.mk (by simpa using hl) fun n w c h1 h2 => h (n + 1) w c (by simpa using h1) (by simpa using h2)⟩
  | [], _ :: _, hl, _ => by simp at hl
  | _ :: _, [], hl, _ => by simp at hl
/-- the inner places, about place n -/
theorem inn_at : ∀ {vs : List V} {cs : List Cl} {n : Nat} {c : Cl} {w : V}, vs.length = cs.length → cs[n]? = some c → vs[n]? = some w →
    ∃ A B, inn vs cs = A ++ (inn1 w c ++ B) ∧ (∀ c' w', inn (vs.set n w') (cs.set n c') = A ++ (inn1 w' c' ++ B)) ∧ ∀ (m : Nat) c2 w2, m ≠ n → cs[m]? = some c2 → vs[m]? = some w2 → ∀ b ∈ inn1 w2 c2, b ∈ A ∨ b ∈ B
  | [], [], n, c, w, _, e, _ => by simp at e
  | v :: vs, d :: cs, 0, c, w, hl, e, f => by
    simp at e f
    subst e; subst f
    refine ⟨[], inn vs cs, by rw [inn, List.nil_append], fun c' w' => by rw [List.set_cons_zero, List.set_cons_zero, inn, List.nil_append], fun m c2 w2 hm e2 f2 b hb => .inr ?_⟩
    cases m with
    | zero => exact absurd rfl hm
    | succ m => exact innM (by simpa using e2) (by simpa using f2) hb
  | v :: vs, d :: cs, n + 1, c, w, hl, e, f => by
    obtain ⟨A, B, h1, h2, h3⟩ := inn_at (by simpa using hl) (show cs[n]? = some c by simpa using e) (show vs[n]? = some w by simpa using f)
    refine ⟨inn1 v d ++ A, B, by rw [inn, h1, List.append_assoc], fun c' w' => by rw [List.set_cons_succ, List.set_cons_succ, inn, h2, List.append_assoc], fun m c2 w2 hm e2 f2 b hb => ?_⟩
    cases m with
    | zero =>
      simp at e2 f2
      subst e2; subst f2
      exact .inl (List.mem_append_left _ hb)
    | succ m =>
      rcases h3 m c2 w2 (fun z => hm (by rw [z])) (by simpa using e2) (by simpa using f2) b hb with q | q
      · exact .inl (List.mem_append_right _ q)
      · exact .inr q
  | [], _ :: _, _, _, _, hl, _, _ => by simp at hl
  | _ :: _, [], _, _, _, hl, _, _ => by simp at hl
where innM : ∀ {vs : List V} {cs : List Cl} {n : Nat} {c : Cl} {w : V} {b : Addr}, cs[n]? = some c → vs[n]? = some w → b ∈ inn1 w c → b ∈ inn vs cs
  | [], _, n, c, w, b, _, f, _ => by simp at f
  | _ :: _, [], n, c, w, b, e, _, _ => by simp at e
  | v :: vs, d :: cs, 0, c, w, b, e, f, hb => by
    simp at e f
    subst e; subst f
    rw [inn]; exact List.mem_append_left _ hb
  | v :: vs, d :: cs, n + 1, c, w, b, e, f, hb => by
    rw [inn]; exact List.mem_append_right _ (innM (show cs[n]? = some c by simpa using e) (show vs[n]? = some w by simpa using f) hb)
theorem set_self {α : Type} {xs : List α} {n : Nat} {x : α} (h : xs[n]? = some x) : xs.set n x = xs := by
  refine List.ext_getElem? fun j => ?_
  by_cases hj : j = n
  · subst hj
    rw [List.getElem?_set_self (List.getElem?_eq_some_iff.mp h).1, h]
  · rw [List.getElem?_set_ne (Ne.symm hj)]
theorem nstAt_some {l : Loc} {i : Nat} {cs : List Cl} (h : nstAt l i = some cs) : l[i]? = some (.nst cs) := by
  unfold nstAt at h
  split at h
  · rename_i e; cases h; exact e
  · cases h
end
section
variable {tb : Ad} {K : PySem.W.Frag} {Xs M M1 M2 : Ad} {σ : L2.St} {H H1 H2 : Hp} {l l2 : Loc} {i n : Nat} {cs : List Cl} {c : Cl} {a b : Addr} {vs : List V} {w : V}
/-- where cell n stands -/
structure CellAt (σ : L2.St) (i n : Nat) (a : Addr) (vs : List V) (w : V) (H : Hp) : Prop where
  s : σ[i]? = some (some (.ref a))
  h : H a = some (.lst vs)
  g : vs[n]? = some w
theorem RepLoc.cell (r : RepLoc tb K Xs M σ H l) (e : l[i]? = some (.nst cs)) (ec : cs[n]? = some c) : ∃ a vs w, CellAt σ i n a vs w H ∧ RepC K Xs M H w c ∧ M a := by
  obtain ⟨a, vs, h1, h2, h3, h4, h5⟩ := r.nst i cs e
  obtain ⟨w, h6, h7⟩ := h4.get ec
  exact ⟨a, vs, w, ⟨h1, h3, h6⟩, h7, h2⟩
/-- a cell is frozen -/
theorem RepLoc.freeze (r : RepLoc tb K Xs M σ H l) (e : l[i]? = some (.nst cs)) (ec : cs[n]? = some c) (ca : CellAt σ i n a vs w H) : ∃ M', (∀ b, M' b → M b) ∧ RepLoc tb K Xs M' σ H (l.set i (.nst (cs.set n (.v c.d)))) ∧ Rep K (Fb Xs M') H w c.d := by
  obtain ⟨v, h1, ru, rr⟩ := r.take e (fun z => by cases z)
  rw [ca.s] at h1; cases h1
  obtain ⟨⟨p, us, ep, q1, q2, q3, q4⟩, sep⟩ := rr
  cases ep
  rw [ca.h] at q2; cases q2
  obtain ⟨w', g1, g2⟩ := q3.get ec
  rw [ca.g] at g1; cases g1
  obtain ⟨A, B, k1, k2, k3⟩ := inn_at q3.length ec ca.g
  have nd := q4
  rw [k1] at nd
  have hP : ∀ b ∈ inn1 w c, M b ∧ ¬ Owd (l.set i .un) σ H b := fun b hb => by
    have mb : b ∈ inn vs cs := by rw [k1]; exact List.mem_append_right _ (List.mem_append_left _ hb)
    exact ⟨(inn_M q3 b mb).1, sep b ⟨a, vs, rfl, ca.h, List.mem_cons_of_mem _ mb⟩⟩
  have rl := ru.lessP (fun b => b ∈ inn1 w c) fun b hb => (hP b hb).2
  have sub : ∀ b, Fb Xs (fun b => M b ∧ ¬ b ∈ inn1 w c) b → Fb Xs M b := fun b z => z.elim .inl fun q => .inr q.1
  have rw' : Rep K (Fb Xs fun b => M b ∧ ¬ b ∈ inn1 w c) H w c.d := by
    cases c with
    | v d => exact Rep.mono g2 sub
    | o ds =>
      obtain ⟨b, ws, rfl, t1, t2, t3⟩ := g2
      show Rep K _ H (.ref b) (.lst ds)
      rw [Rep]
      exact ⟨b, ws, rfl, .inl ⟨.inl t2, fun z => z.elim (fun x => r.dis b x t1) fun q => q.2 (List.mem_singleton.mpr rfl)⟩, t3.mono sub⟩
  have na : a ∉ inn1 w c ∧ a ∉ A ∧ a ∉ B := by
    rw [List.nodup_cons] at nd
    exact ⟨fun z => nd.1 (List.mem_append_right _ (List.mem_append_left _ z)), fun z => nd.1 (List.mem_append_left _ z), fun z => nd.1 (List.mem_append_right _ (List.mem_append_right _ z))⟩
  have nd2 := (List.nodup_cons.mp nd).2
  have nAB : ∀ b, b ∈ A ∨ b ∈ B → b ∉ inn1 w c := fun b hb z => by
    rcases hb with hb | hb
    · exact (List.nodup_append.mp nd2).2.2 b hb b (List.mem_append_left _ z) rfl
    · exact (List.nodup_append.mp (List.nodup_append.mp nd2).2.1).2.2 b z b hb rfl
  have e0 : inn vs (cs.set n (.v c.d)) = A ++ B := by
    have := k2 (.v c.d) w
    rw [set_self ca.g] at this
    rw [this]
    cases w <;> rfl
  refine ⟨fun b => M b ∧ ¬ b ∈ inn1 w c, fun b z => z.1, ?_, rw'⟩
  have hi : i < (l.set i .un).length := by rw [List.length_set]; exact (List.getElem?_eq_some_iff.mp e).1
  have rs := rl.set (i := i) (v := .ref a) (s := .nst (cs.set n (.v c.d))) hi (RepR.mk ⟨a, vs, rfl, ⟨q1, na.1⟩, ca.h, RepCs.mk (by rw [List.length_set]; exact q3.length) fun m w2 c2 f1 f2 => ?_, ?_⟩ fun b o => ?_)
  · rw [List.set_set, σ_set ca.s] at rs
    exact rs
  · by_cases hm : m = n
    · subst hm
      rw [List.getElem?_set_self (List.getElem?_eq_some_iff.mp ec).1] at f2
      cases f2
      rw [ca.g] at f1; cases f1
      exact rw'
    · rw [List.getElem?_set_ne (Ne.symm hm)] at f2
      obtain ⟨w3, f3, f4⟩ := q3.get f2
      rw [f1] at f3; cases f3
      exact f4.move (fun _ _ _ q _ => q) (fun b z => .inl (sub b z)) fun b hb => ⟨⟨(inn_M q3 b (inn_at.innM f2 f1 hb)).1, nAB b (k3 m c2 w2 hm f2 f1 b hb)⟩, fun _ q => q⟩
  · rw [e0, List.nodup_cons]
    refine ⟨fun z => (List.mem_append.mp z).elim na.2.1 na.2.2, ?_⟩
    refine List.nodup_append.mpr ⟨(List.nodup_append.mp nd2).1, (List.nodup_append.mp (List.nodup_append.mp nd2).2.1).2.1, fun x hx y hy => (List.nodup_append.mp nd2).2.2 x hx y (List.mem_append_right _ hy)⟩
  · obtain ⟨p, us, ep, t1, t2⟩ := o
    cases ep
    rw [ca.h] at t1; cases t1
    refine sep b ⟨a, vs, rfl, ca.h, ?_⟩
    rw [e0] at t2
    rcases List.mem_cons.mp t2 with t2 | t2
    · exact t2 ▸ List.mem_cons_self
    · refine List.mem_cons_of_mem _ ?_
      rw [k1]
      rcases List.mem_append.mp t2 with t2 | t2
      · exact List.mem_append_left _ t2
      · exact List.mem_append_right _ (List.mem_append_right _ t2)
/-- an inner list is changed -/
theorem RepLoc.putCell {ds es : List D} {ws : List V} (r : RepLoc tb K Xs M σ H l) (e : l[i]? = some (.nst cs)) (ec : cs[n]? = some (.o ds)) (ca : CellAt σ i n a vs (.ref b) H) (h : RepL K (Fb Xs M) H ws es) :
    Step M H M (upd H b (.lst ws)) ∧ RepLoc tb K Xs M σ (upd H b (.lst ws)) (l.set i (.nst (cs.set n (.o es)))) := by
  obtain ⟨p, us, h1, q1, q2, q3, q4⟩ := r.nst i cs e
  rw [ca.s] at h1; cases h1
  rw [ca.h] at q2; cases q2
  obtain ⟨w', g1, g2⟩ := q3.get ec
  rw [ca.g] at g1; cases g1
  obtain ⟨b', xs, eb, t1, t2, t3⟩ := g2
  cases eb
  obtain ⟨A, B, k1, k2, k3⟩ := inn_at q3.length ec ca.g
  have mb : b ∈ inn vs cs := inn_at.innM ec ca.g (List.mem_singleton.mpr rfl)
  have nd := q4
  rw [k1] at nd
  have nab : a ≠ b := fun z => (List.nodup_cons.mp q4).1 (by rw [z]; exact mb)
  have nd2 := (List.nodup_cons.mp nd).2
  have nAB : ∀ x, x ∈ A ∨ x ∈ B → x ≠ b := fun x hx z => by
    subst z
    have hb : x ∈ inn1 (.ref x) (.o ds) := List.mem_singleton.mpr rfl
    rcases hx with hx | hx
    · exact (List.nodup_append.mp nd2).2.2 x hx x (List.mem_append_left _ hb) rfl
    · exact (List.nodup_append.mp (List.nodup_append.mp nd2).2.1).2.2 x hb x hx rfl
  have st : Step M H M (upd H b (.lst ws)) := Step.put t1 t2
  have e0 : inn vs (cs.set n (.o es)) = inn vs cs := by
    have := k2 (.o es) (.ref b)
    rw [set_self ca.g] at this
    rw [this, k1]; rfl
  refine r.putS e ca.s ⟨a, vs, rfl, ca.h, List.mem_cons_of_mem _ mb⟩ ⟨a, vs, rfl, q1, by rw [upd_ne nab]; exact ca.h, RepCs.mk (by rw [List.length_set]; exact q3.length) fun m w2 c2 f1 f2 => ?_, by rw [e0]; exact q4⟩ fun x o => ?_
  · by_cases hm : m = n
    · subst hm
      rw [List.getElem?_set_self (List.getElem?_eq_some_iff.mp ec).1] at f2
      cases f2
      rw [ca.g] at f1; cases f1
      exact ⟨b, ws, rfl, t1, upd_same, h.step st⟩
    · rw [List.getElem?_set_ne (Ne.symm hm)] at f2
      obtain ⟨w3, f3, f4⟩ := q3.get f2
      rw [f1] at f3; cases f3
      exact f4.move (fun x u nx q t => st.ext x u (fun z => nx (.inr z)) q t) st.fb fun x hx => ⟨(inn_M q3 x (inn_at.innM f2 f1 hx)).1, fun us q => by rw [upd_ne (nAB x (k3 m c2 w2 hm f2 f1 x hx))]; exact q⟩
  · obtain ⟨p, us, ep, o1, o2⟩ := o
    cases ep
    rw [upd_ne nab, ca.h] at o1
    cases o1
    exact r.only e ca.s ⟨a, vs, rfl, ca.h, by rw [e0] at o2; exact o2⟩
/-- slot i, held back while something else runs, stands again -/
theorem RepLoc.back {P : Ad} {s : Sl} {v : V} (hs : RepS K Xs M1 H1 v s) (hP : P = Ows H1 v s) (st : Step (fun b => M1 b ∧ ¬ P b) H1 M2 H2) (r : RepLoc tb K (Wp Xs P) M2 σ H2 l2) (eσ : σ[i]? = some (some v)) (dis : ∀ a, Xs a → ¬ M1 a) :
    RepLoc tb K Xs (fun b => M2 b ∨ P b) σ H2 (l2.set i s) := by
  subst hP
  obtain ⟨rs, ow⟩ := hs.held st
  have rg := r.giveP fun a o x => dis a x (hs.ows_M o).1
  have hi : i < l2.length := by rw [← r.len]; exact (List.getElem?_eq_some_iff.mp eσ).1
  have := rg.set (i := i) (v := v) (s := s) hi (RepR.mk rs fun a o z => r.dis a (.inr ((ow a).mp o)) (r.owd_M z).1)
  rw [σ_set eσ] at this
  exact this
end
section
variable {X : Cx} {W : WX} {xi : XI} {Γ : Gam} {x : Str} {px ps : Pos} {kx : Expr} {k' : E} {i : Nat}
/-- x[k], a cell's value -/
theorem cell_core (hv : PE X (.Name x px) (tVar i)) (hk : PD X W xi kx (evX Γ k')) (hp : PlainIx kx) :
    ∃ t, PE X (.Subscript (.Name x px) kx ps) t ∧ ∀ (Xs : Ad) (σ : L2.St) (H : Hp) (l : Loc) (M : Ad) (Q : VK) (post : Sl → Loc → Ad → Hp → Prop) (cs0 : List Cl), RepLoc xi.tb X.K Xs M σ H l → nstAt l i = some cs0 → Po ⟨X.K, Xs, W, xi, σ⟩ M H post (evX Γ k' l) →
      (∀ s l1 M1 H1, Step M H M1 H1 → RepLoc xi.tb X.K Xs M1 σ H1 l1 → post s l1 M1 H1 → ∃ cs j n c, nstAt l1 i = some cs ∧ s.d = .int j ∧ ixN cs.length j = some n ∧ cs[n]? = some c ∧ ∀ a vs w, CellAt σ i n a vs w H1 → RepC X.K Xs M1 H1 w c → Q w H1) → t σ H Q := by
  obtain ⟨t, ht, q⟩ := hk.ex
  refine ⟨_, pe_ix ix_list hv ht hp, fun Xs σ H l M Q post cs0 r e0 g nx => ?_⟩
  obtain ⟨a, vs, h1, h2, h3, h4, h5⟩ := r.nst i cs0 (nstAt_some e0)
  refine ⟨.ref a, h1, q Xs σ H l M _ r (g.imp fun s l1 M1 H1 st1 rl1 g1 y ry => ?_)⟩
  obtain ⟨cs, j, n, c, e1, e2, e3, e4, fin⟩ := nx s l1 M1 H1 st1 rl1 g1
  have hy : y = .int j := (RepR.pkd ry e2).int'
  subst hy
  obtain ⟨a', vs', w, ca, rc, _⟩ := rl1.cell (nstAt_some e1) e4
  have ea : a' = a := by
    have := ca.s
    have h1' : σ[i]? = some (some (V.ref a)) := h1
    rw [h1'] at this
    simpa using this.symm
  subst ea
  obtain ⟨_, us, g1', _, g3, g4, _⟩ := rl1.nst i cs (nstAt_some e1)
  have := ca.s
  rw [this] at g1'; cases g1'
  rw [ca.h] at g3; cases g3
  refine ⟨a', vs', j, w, rfl, rfl, .inl (.inl ca.h), ?_, fin a' vs' w ca rc⟩
  unfold atI
  rw [g4.length, e3]
  exact ca.g
theorem pd_nit (hv : PE X (.Name x px) (tVar i)) (hk : PD X W xi kx (evX Γ k')) (hp : PlainIx kx) : PD X W xi (.Subscript (.Name x px) kx ps) (evX Γ (.nit i k')) := by
  obtain ⟨t, ht, q⟩ := hk.ex
  refine ⟨_, pe_ix (IxR.or (ix_list (X := X)) (ixp (X := X))) hv ht hp, fun Xs σ H l M Q r g => ?_⟩
  rw [evX.eq_def] at g
  dsimp only at g
  cases e0 : isSet l i with
  | false => rw [e0] at g; exact g.elim
  | true =>
    rw [e0, if_pos rfl] at g
    have hs : ∃ v, σ[i]? = some (some v) := by
      unfold isSet at e0
      split at e0
      · rename_i cs e; obtain ⟨v, h, _⟩ := r.slot i _ e (fun z => by cases z); exact ⟨v, h⟩
      · rename_i d e; obtain ⟨v, h, _⟩ := r.slot i _ e (fun z => by cases z); exact ⟨v, h⟩
      · cases e0
    obtain ⟨v, hs⟩ := hs
    refine ⟨v, hs, q Xs σ H l M _ r (g.bind.imp fun s l1 M1 H1 st1 rl1 g1 y ry => ?_)⟩
    dsimp only at g1
    cases e1 : l1[i]? with
    | none => rw [e1] at g1; exact g1.elim
    | some z =>
      rw [e1] at g1
      cases z with
      | un => exact g1.elim
      | own ds => exact g1.elim
      | val d =>
        cases e2 : s.d with
        | int j =>
          rw [e2] at g1
          dsimp only at g1
          cases e3 : primD .ix [d, .int j] with
          | none => rw [e3] at g1; exact g1.elim
          | some z =>
            rw [e3] at g1
            obtain ⟨v', h1, h2⟩ := rl1.val i d e1
            have h1' : σ[i]? = some (some v') := h1
            rw [hs] at h1'; cases h1'
            exact .inr ⟨Fb Xs M1, d, .int j, z, rl1.tr (C := ⟨X.K, Xs, W, xi, σ⟩), h2.pk, RepR.pkd ry e2, e3, fin_of (C := ⟨X.K, Xs, W, xi, σ⟩) rl1 g1 fun h => primD_un (e3.trans (congrArg some h))⟩
        | _ => rw [e2] at g1; exact g1.elim
      | nst cs =>
        cases e2 : s.d with
        | int j =>
          rw [e2] at g1
          dsimp only at g1
          cases e3 : ixN cs.length j with
          | none => rw [e3] at g1; exact g1.elim
          | some n =>
            rw [e3] at g1
            dsimp only at g1
            cases e4 : cs[n]? with
            | none => rw [e4] at g1; exact g1.elim
            | some c =>
              rw [e4] at g1
              obtain ⟨a, vs, w, ca, rc, _⟩ := rl1.cell e1 e4
              have ev : v = .ref a := by
                have := ca.s
                have hs' : σ[i]? = some (some v) := hs
                rw [hs'] at this
                simpa using this
              subst ev
              obtain ⟨_, us, g1', _, g3, g4, _⟩ := rl1.nst i cs e1
              rw [ca.s] at g1'; cases g1'
              rw [ca.h] at g3; cases g3
              obtain ⟨M', hm, rl2, rw2⟩ := rl1.freeze e1 e4 ca
              refine .inl ⟨a, vs, j, w, rfl, (RepR.pkd ry e2).int', .inl (.inl ca.h), ?_, g1 M' H1 (Step.refl.less hm) rl2 w rw2⟩
              unfold atI
              rw [g4.length, e3]
              exact ca.g
        | _ => rw [e2] at g1; exact g1.elim
end
end DL

set_option Elab.async false
set_option linter.all false
set_option maxRecDepth 100000
set_option maxHeartbeats 4000000
namespace DL
open PySem PySem.Spec PyProof.Rows L2

section
variable {X : Cx} {W : WX} {xi : XI} {Γ : Gam} {x : Str} {px ps : Pos} {kx : Expr} {k' : E} {i : Nat}
/-- what the cells' rules have in common -/
theorem ce_bind {α : Type} {C : Cf} {M : Ad} {H : Hp} {l : Loc} {post : α → Loc → Ad → Hp → Prop} {F : List Cl → Nat → Cl → Loc → R (α × Loc)} (k : E)
    (g : Po C M H post (match nstAt l i with
    | some _ => (evX Γ k l).bind fun r => (match nstAt r.2 i, r.1.d with
      | some cs, .int j => (match ixN cs.length j with
        | some m => (match cs[m]? with
          | some c => F cs m c r.2
          | none => .bad)
        | none => .bad)
      | _, _ => .bad)
    | none => .bad)) :
    ∃ cs0, nstAt l i = some cs0 ∧ Po C M H (fun s l1 M1 H1 => ∃ cs j n c, nstAt l1 i = some cs ∧ s.d = .int j ∧ ixN cs.length j = some n ∧ cs[n]? = some c ∧ Po C M1 H1 post (F cs n c l1)) (evX Γ k l) := by
  cases e0 : nstAt l i with
  | none => rw [e0] at g; exact g.elim
  | some cs0 =>
    rw [e0] at g
    refine ⟨cs0, rfl, g.bind.imp fun s l1 M1 H1 st1 rl1 g1 => ?_⟩
    dsimp only at g1
    cases e1 : nstAt l1 i with
    | none => rw [e1] at g1; exact g1.elim
    | some cs =>
      rw [e1] at g1
      cases e2 : s.d with
      | int j =>
        rw [e2] at g1
        dsimp only at g1
        cases e3 : ixN cs.length j with
        | none => rw [e3] at g1; exact g1.elim
        | some n =>
          rw [e3] at g1
          dsimp only at g1
          cases e4 : cs[n]? with
          | none => rw [e4] at g1; exact g1.elim
          | some c => rw [e4] at g1; exact ⟨cs, j, n, c, rfl, rfl, e3, e4, g1⟩
      | _ => rw [e2] at g1; exact g1.elim
theorem ceo_bind {α : Type} {C : Cf} {M : Ad} {H : Hp} {l : Loc} {post : α → Loc → Ad → Hp → Prop} {F : List Cl → Nat → List D → Loc → R (α × Loc)} (k : E)
    (g : Po C M H post (match nstAt l i with
    | some _ => (evX Γ k l).bind fun r => (match nstAt r.2 i, r.1.d with
      | some cs, .int j => (match ixN cs.length j with
        | some m => (match cs[m]? with
          | some (.o ds) => F cs m ds r.2
          | _ => .bad)
        | none => .bad)
      | _, _ => .bad)
    | none => .bad)) :
    ∃ cs0, nstAt l i = some cs0 ∧ Po C M H (fun s l1 M1 H1 => ∃ cs j n c, nstAt l1 i = some cs ∧ s.d = .int j ∧ ixN cs.length j = some n ∧ cs[n]? = some c ∧ ∃ ds, c = .o ds ∧ Po C M1 H1 post (F cs n ds l1)) (evX Γ k l) := by
  cases e0 : nstAt l i with
  | none => rw [e0] at g; exact g.elim
  | some cs0 =>
    rw [e0] at g
    refine ⟨cs0, rfl, g.bind.imp fun s l1 M1 H1 st1 rl1 g1 => ?_⟩
    dsimp only at g1
    cases e1 : nstAt l1 i with
    | none => rw [e1] at g1; exact g1.elim
    | some cs =>
      rw [e1] at g1
      cases e2 : s.d with
      | int j =>
        rw [e2] at g1
        dsimp only at g1
        cases e3 : ixN cs.length j with
        | none => rw [e3] at g1; exact g1.elim
        | some n =>
          rw [e3] at g1
          dsimp only at g1
          cases e4 : cs[n]? with
          | none => rw [e4] at g1; exact g1.elim
          | some c =>
            rw [e4] at g1
            cases c with
            | v d => exact g1.elim
            | o ds => exact ⟨cs, j, n, .o ds, rfl, rfl, e3, e4, ds, rfl, g1⟩
      | _ => rw [e2] at g1; exact g1.elim
theorem RepC.pk {K : PySem.W.Frag} {Xs M : Ad} {H : Hp} {w : V} {c : Cl} (h : RepC K Xs M H w c) : Pk K (Fb Xs M) H w c.d := by
  cases c with
  | v d => exact Rep.pk h
  | o ds =>
    obtain ⟨b, ws, rfl, h1, h2, h3⟩ := h
    exact ⟨b, ws, rfl, .inl (.inl h2), h3⟩
/-- f(x[k]) -/
theorem npk_core {p : Prim} (hv : PE X (.Name x px) (tVar i)) (hk : PD X W xi kx (evX Γ k')) (hp : PlainIx kx) :
    ∃ t, PA X [.Subscript (.Name x px) kx ps] t ∧ ∀ (Xs : Ad) (σ : L2.St) (H : Hp) (l : Loc) (M : Ad) (Q : VK), RepLoc xi.tb X.K Xs M σ H l →
      Po ⟨X.K, Xs, W, xi, σ⟩ M H (fun s l' M' H' => ∀ v, RepR X.K Xs M' σ l' H' v s → Q v H') (evX Γ (.npk p i k') l) → tCB (RN X.K p) t σ H Q := by
  obtain ⟨t, ht, q⟩ := cell_core (ps := ps) hv hk hp
  refine ⟨tCons t tNil, pa_cons ht pa_nil (starEach_cons rfl), fun Xs σ H l M Q r g => ?_⟩
  rw [evX.eq_def] at g
  dsimp only at g
  obtain ⟨cs0, e0, g⟩ := ce_bind (F := fun cs m c l1 => match primD p [c.d] with | some s => .ok (s, l1) | none => .bad) k' g
  refine q Xs σ H l M _ _ cs0 r e0 g fun s l1 M1 H1 st1 rl1 g1 => ?_
  obtain ⟨cs, j, n, c, h1, h2, h3, h4, h5⟩ := g1
  refine ⟨cs, j, n, c, h1, h2, h3, h4, fun a vs w ca rc => ?_⟩
  cases e2 : primD p [c.d] with
  | none => rw [e2] at h5; exact h5.elim
  | some z =>
    rw [e2] at h5
    exact ⟨Fb Xs M1, [c.d], z, rl1.tr (C := ⟨X.K, Xs, W, xi, σ⟩), ⟨rc.pk, trivial⟩, e2, fin_of (C := ⟨X.K, Xs, W, xi, σ⟩) rl1 h5 fun z => primD_un (e2.trans (congrArg some z))⟩
/-- x[k].f(..) -/
theorem nmt_core {m : Mt} {es' : List E} {t : TA} (hv : PE X (.Name x px) (tVar i)) (hk : PD X W xi kx (evX Γ k')) (hp : PlainIx kx) (q : ∀ (Xs : Ad) (σ : L2.St) (H : Hp) (l : Loc) (M : Ad) (Q : List V → Hp → Prop), RepLoc xi.tb X.K Xs M σ H l →
    Po ⟨X.K, Xs, W, xi, σ⟩ M H (fun ds l' M' H' => ∀ vs, RepL X.K (Fb Xs M') H' vs ds → Q vs H') (evDs Γ es' l) → t σ H Q) :
    ∃ tc, PE X (.Subscript (.Name x px) kx ps) tc ∧ ∀ (Xs : Ad) (σ : L2.St) (H : Hp) (l : Loc) (M : Ad) (Q : VK), RepLoc xi.tb X.K Xs M σ H l →
    Po ⟨X.K, Xs, W, xi, σ⟩ M H (fun s l' M' H' => ∀ v, RepR X.K Xs M' σ l' H' v s → Q v H') (evX Γ (.nmt m i k' es') l) → tc σ H fun y H1 => tyV X.K "list" y H1 ∧ t σ H1 fun xs H2 => RM X.K m y xs H2 Q := by
  obtain ⟨tc, ht, qc⟩ := cell_core (ps := ps) hv hk hp
  refine ⟨tc, ht, fun Xs σ H l M Q r g => ?_⟩
  rw [evX.eq_def] at g
  dsimp only at g
  obtain ⟨cs0, e0, g⟩ := ceo_bind (F := fun cs n ds l1 => (evDs Γ es' (l1.set i .un)).bind fun r1 => (match mthD m ds r1.1 with
            | some z => R.ok (Sl.val z.1, r1.2.set i (.nst (cs.set n (.o z.2))))
            | none => .bad)) k' g
  refine qc Xs σ H l M _ _ cs0 r e0 g fun s l1 M1 H1 st1 rl1 g1 => ?_
  obtain ⟨cs, j, n, c, h1, h2, h3, h4, h5⟩ := g1
  refine ⟨cs, j, n, c, h1, h2, h3, h4, fun a vs w ca rc => ?_⟩
  obtain ⟨ds, rfl, h5⟩ := h5
  obtain ⟨b, ws, rfl, t1, t2, t3⟩ := rc
  refine ⟨.inl ⟨rfl, ws, .inl (.inl t2)⟩, ?_⟩
  have h1' := nstAt_some h1
  obtain ⟨v, hσ, ru, rr⟩ := rl1.take h1' (fun z => by cases z)
  rw [ca.s] at hσ; cases hσ
  have rs := rr.toS
  have rh := ru.hideP (P := Ows H1 (.ref a) (.nst cs)) (fun a o => (rs.ows_M o).1) (fun a o => rr.sep o)
  refine q _ σ H1 _ _ _ rh ((Po.hide (fun a o => (rs.ows_M o).1) (fun a o x => rl1.dis a x (rs.ows_M o).1) h5.bind).imp fun as l2 M2 H2 st2 rl2 g2 xs rv => ?_)
  dsimp only at g2
  cases e3 : mthD m ds as with
  | none => rw [e3] at g2; exact g2.elim
  | some z =>
    rw [e3] at g2
    have rb := RepLoc.back rs rfl st2 rl2 ca.s (fun a x => rl1.dis a x)
    have hi : i < l2.length := by rw [← rl2.len]; exact (List.getElem?_eq_some_iff.mp ca.s).1
    have e4 : (l2.set i (.nst cs))[i]? = some (.nst cs) := List.getElem?_set_self hi
    have ha : H2 a = some (.lst vs) := st2.lst (fun z => z.2 ⟨a, vs, rfl, ca.h, List.mem_cons_self⟩) ca.h
    have ca2 : CellAt σ i n a vs (.ref b) H2 := ⟨ca.s, ha, ca.g⟩
    obtain ⟨a', vs', w', ca3, rc3, _⟩ := rb.cell e4 h4
    have ea : a' = a := by
      have := ca3.s
      rw [ca.s] at this
      simpa using this.symm
    subst ea
    have := ca3.h
    rw [ha] at this; cases this
    have := ca3.g
    rw [ca.g] at this; cases this
    obtain ⟨b', us, eb, u1, u2, u3⟩ := rc3
    cases eb
    refine ⟨_, b, us, ds, as, z, rfl, u2, u3, rv.mono fun y z => fbp_same.mpr z, e3, fun y ys ry ru' => ?_⟩
    obtain ⟨st3, rl3⟩ := rb.putCell e4 h4 ca2 ru'
    rw [List.set_set] at rl3
    exact g2 _ _ st3 rl3 y (Rep.step (X := Xs) st3 ry)
theorem pd_nmt0 {m : Mt} {nm : Str} {pa pc : Pos} (hv : PE X (.Name x px) (tVar i)) (hk : PD X W xi kx (evX Γ k')) (hp : PlainIx kx) (hm : mtOf nm 0 = some m) (hl : (pa.endLine == pc.line) = true) :
    PD X W xi (.Call (.Attribute (.Subscript (.Name x px) kx ps) nm pa) [] [] pc) (evX Γ (.nmt m i k' [])) := by
  obtain ⟨tc, ht, fin⟩ := nmt_core (X := X) (W := W) (xi := xi) (Γ := Γ) (m := m) (ps := ps) (es' := []) (t := tNil) hv hk hp fun Xs σ H l M Q r g => by
    rw [evDs.eq_def] at g
    exact g M H Step.refl r [] RepL.nil
  unfold mtOf at hm
  split at hm
  · rename_i hx; cases hm
    simp only [Bool.and_eq_true, beq_iff_eq] at hx
    obtain ⟨rfl, _⟩ := hx
    exact ⟨_, pe_bm0 PySem.F.plainAttrs_list PySem.F.slot_list_pop PySem.F.type_list_pop mt_pop' ht rfl hl, fin⟩
  split at hm
  · rename_i hx; simp at hx
  split at hm
  · rename_i hx; simp at hx
  split at hm
  · rename_i hx; cases hm
    simp only [Bool.and_eq_true, beq_iff_eq] at hx
    obtain ⟨rfl, _⟩ := hx
    exact ⟨_, pe_bm0 PySem.F.plainAttrs_list PySem.F.slot_list_reverse PySem.F.type_list_reverse mt_rev' ht rfl hl, fin⟩
  · cases hm
theorem pd_nmt {m : Mt} {nm : Str} {pa pc : Pos} {e : Expr} {es : List Expr} {es' : List E} (hv : PE X (.Name x px) (tVar i)) (hk : PD X W xi kx (evX Γ k')) (hp : PlainIx kx) (h : PLD X W xi (e :: es) (evDs Γ es')) (hs : (e :: es).all notStar = true) (hm : mtOf nm (e :: es).length = some m) (hl : (pa.endLine == pc.line) = true) :
    PD X W xi (.Call (.Attribute (.Subscript (.Name x px) kx ps) nm pa) (e :: es) [] pc) (evX Γ (.nmt m i k' es')) := by
  obtain ⟨t, htA, q⟩ := h.ex
  obtain ⟨tc, ht, fin⟩ := nmt_core (X := X) (W := W) (xi := xi) (Γ := Γ) (m := m) (ps := ps) (es' := es') (t := t) hv hk hp q
  obtain ⟨s1, s2⟩ := all_star (env := X.env) (pos := pc) hs
  have few : (e :: es).length < 29 → _ := few_star (env := X.env) (pos := pc) hs
  unfold mtOf at hm
  split at hm
  · rename_i hx; simp at hx
  split at hm
  · rename_i hx; cases hm
    simp only [Bool.and_eq_true, beq_iff_eq] at hx
    obtain ⟨rfl, hn⟩ := hx
    exact ⟨_, pe_bm PySem.F.plainAttrs_list PySem.F.slot_list_pop PySem.F.type_list_pop mt_popAt' ht htA rfl (few (by omega)) hl s1 s2, fin⟩
  split at hm
  · rename_i hx; cases hm
    simp only [Bool.and_eq_true, beq_iff_eq] at hx
    obtain ⟨rfl, hn⟩ := hx
    exact ⟨_, pe_bm PySem.F.plainAttrs_list PySem.F.slot_list_insert PySem.F.type_list_insert mt_ins' ht htA rfl (few (by omega)) hl s1 s2, fin⟩
  split at hm
  · rename_i hx; simp at hx
  · cases hm
/-- x[k][j] -/
theorem pd_niy {jx : Expr} {j' : E} {pos : Pos} (hv : PE X (.Name x px) (tVar i)) (hk : PD X W xi kx (evX Γ k')) (hp : PlainIx kx) (hj : PD X W xi jx (evX Γ j')) (hp2 : PlainIx jx) :
    PD X W xi (.Subscript (.Subscript (.Name x px) kx ps) jx pos) (evX Γ (.niy i k' j')) := by
  obtain ⟨tc, ht, qc⟩ := cell_core (ps := ps) hv hk hp
  obtain ⟨tj, htj, qj⟩ := hj.ex
  refine ⟨_, pe_ix ixp ht htj hp2, fun Xs σ H l M Q r g => ?_⟩
  rw [evX.eq_def] at g
  dsimp only at g
  obtain ⟨cs0, e0, g⟩ := ce_bind (F := fun cs n c l1 => (evX Γ j' (l1.set i .un)).bind fun r1 => (match r1.1.d with
            | .int b => (match primD .ix [c.d, .int b] with
              | some (.val d) => R.ok (Sl.val d, r1.2.set i (.nst cs))
              | _ => .bad)
            | _ => .bad)) k' g
  refine qc Xs σ H l M _ _ cs0 r e0 g fun s l1 M1 H1 st1 rl1 g1 => ?_
  obtain ⟨cs, j, n, c, h1, h2, h3, h4, h5⟩ := g1
  refine ⟨cs, j, n, c, h1, h2, h3, h4, fun a vs w ca rc => ?_⟩
  have h1' := nstAt_some h1
  obtain ⟨v, hσ, ru, rr⟩ := rl1.take h1' (fun z => by cases z)
  rw [ca.s] at hσ; cases hσ
  have rs := rr.toS
  have rh := ru.hideP (P := Ows H1 (.ref a) (.nst cs)) (fun a o => (rs.ows_M o).1) (fun a o => rr.sep o)
  refine qj _ σ H1 _ _ _ rh ((Po.hide (fun a o => (rs.ows_M o).1) (fun a o x => rl1.dis a x (rs.ows_M o).1) h5.bind).imp fun y l2 M2 H2 st2 rl2 g2 u ru2 => ?_)
  dsimp only at g2
  cases e2 : y.d with
  | int b =>
    rw [e2] at g2
    dsimp only at g2
    cases e3 : primD .ix [c.d, .int b] with
    | none => rw [e3] at g2; exact g2.elim
    | some z =>
      rw [e3] at g2
      cases z with
      | val d =>
        have rb := RepLoc.back rs rfl st2 rl2 ca.s (fun a x => rl1.dis a x)
        have hi : i < l2.length := by rw [← rl2.len]; exact (List.getElem?_eq_some_iff.mp ca.s).1
        have e4 : (l2.set i (.nst cs))[i]? = some (.nst cs) := List.getElem?_set_self hi
        have ha : H2 a = some (.lst vs) := st2.lst (fun z => z.2 ⟨a, vs, rfl, ca.h, List.mem_cons_self⟩) ca.h
        obtain ⟨a', vs', w', ca3, rc3, _⟩ := rb.cell e4 h4
        have ea : a' = a := by
          have := ca3.s
          rw [ca.s] at this
          simpa using this.symm
        subst ea
        have := ca3.h
        rw [ha] at this; cases this
        have := ca3.g
        rw [ca.g] at this; cases this
        have hu := (RepR.pkd ru2 e2).int'
        subst hu
        exact ⟨_, c.d, .int b, .val d, rb.tr (C := ⟨X.K, Xs, W, xi, σ⟩), rc3.pk, (Rep.int b).pk, e3, fin_of (C := ⟨X.K, Xs, W, xi, σ⟩) rb g2 fun h => by cases h⟩
      | _ => exact g2.elim
  | _ => rw [e2] at g2; exact g2.elim
end
end DL

set_option Elab.async false
set_option linter.all false
set_option maxRecDepth 100000
set_option maxHeartbeats 8000000
namespace DL
open PySem PySem.Spec PyProof.Rows L2 GenW GxR

/-! ## the translation of a comprehension -/
def relN (names sc : List (Str × NameKind)) : List (Str × NameKind) := names.map fun (n, k) => if (k == .free && sc.lookup n == some .cell) then (n, .cell) else (n, k)
def TC.sub (T : TC) (scope : Scope) : TC := { T with names := relN scope.names T.names }
def ownS (T : TC) (scope : Scope) : List (Str × Nat) := scope.names.filterMap fun (n, k) => if k == .local || k == .cell then (T.N.idxOf? n).map fun i => (n, i) else none
def dumS (T : TC) : Scope := { kind := .function, names := T.names, isGenerator := false, isCoroutine := false }
def notSet : Expr → Bool
  | .Set .. => false
  | _ => true
def isTup : Expr → Bool
  | .Tuple .. => true
  | _ => false
def trI1 (T : TC) (tr : Expr → Option E) (tg : Expr) : Expr → Option (Nat × List E)
  | .Call (.Name "enumerate" px) [a] [] pos => if isTup tg && isBl T "enumerate" && notStar a then (tr a).map fun a' => (4, [a']) else none
  | .Call (.Name "reversed" px) [a] [] pos => if isBl T "reversed" && notStar a then (tr a).map fun a' => (5, [a']) else none
  | .Call (.Name x px) es kws pos => if x == ("range" : Str) && isBl T x && kws.isEmpty then (match es with
      | [a] => if notStar a then (tr a).map fun a' => (1, [a']) else none
      | [a, b] => if notStar a && notStar b then (match tr a, tr b with
        | some a', some b' => some (2, [a', b'])
        | _, _ => none) else none
      | _ => none)
    else (tr (.Call (.Name x px) es kws pos)).map fun e' => (0, [e'])
  | e => if notSet e then (tr e).map fun e' => (0, [e']) else none
def trTs (tr : Expr → Option Tg) : List Expr → Option (List Tg)
  | [] => some []
  | e :: es => match tr e, trTs tr es with
    | some a, some r => if notStar e then some (a :: r) else none
    | _, _ => none
def ownB (scope : Scope) (x : Str) : Bool := match scope.names.lookup x with
  | some .local => true
  | some .cell => true
  | _ => false
def trTc (T : TC) (scope : Scope) (ws : List Nat) : Nat → Expr → Option Tg
  | 0, _ => none
  | n + 1, e => match e with
    | .Name x _ => (match T.N.idxOf? x with
      | some i => if ws.contains i && ownB scope x then some (.name i) else none
      | none => none)
    | .Tuple es _ _ => (trTs (trTc T scope ws n) es).map .tup
    | _ => none
def trFs (tr : Expr → Option E) : List Expr → Option (List E)
  | [] => some []
  | [c] => (tr c).map fun c' => [c']
  | _ => none
/-- over a list that is changed elsewhere in the def: it stays one's own -/
def mkC (T : TC) (e' : E) (t' : Tg) (ik : Nat) (ies fs : List E) (ws : List Nat) : E := match ik, ies with
  | 0, [.var i] => if T.mu.contains i then .cpk e' t' i fs ws else .comp e' t' 0 [.var i] fs ws
  | ik, ies => .comp e' t' ik ies fs ws
def trC (T : TC) (trf : TC → Expr → Option E) (elt tg iter : Expr) (ifs : List Expr) (scope : Scope) : Option E :=
  if blkC T.N (dumS T) scope (ownS T scope) then
    match trTc T scope ((ownS T scope).map (·.2)) 8 tg, trI1 T (trf T) tg iter, trf (T.sub scope) elt, trFs (trf (T.sub scope)) ifs with
    | some t', some (ik, ies), some e', some fs => some (mkC T e' t' ik ies fs ((ownS T scope).map (·.2)))
    | _, _, _, _ => none
  else none
/-- of a generator expression: its names alone -/
def TC.subG (T : TC) (scope : Scope) : TC := { T with names := scope.names, gd := 0 }
def gscB (N : List Str) (scope : Scope) : Bool := !scope.isCoroutine && scope.names.all (fun y => decide (y.2 ≠ .cell)) && decide (scope.names.lookup (".0" : Str) = some NameKind.local) && decide ((".0" : Str) ∉ N)
def notLst : Expr → Bool
  | .List .. => false
  | _ => true
def trG (T : TC) (trf : TC → Expr → Option E) (elt tg iter : Expr) (ifs : List Expr) (scope : Scope) : Option E :=
  if decide (T.gd = 6) && (blkC T.N (dumS T) scope (ownS T scope) && (gscB T.N scope && notLst iter)) then
    match trTc T scope ((ownS T scope).map (·.2)) 8 tg, trI1 T (trf T) tg iter, trf (T.subG scope) elt, trFs (trf (T.subG scope)) ifs with
    | some t', some (ik, ies), some e', some fs => some (.comp e' t' ik ies fs ((ownS T scope).map (·.2)))
    | _, _, _, _ => none
  else none
/-- a slot with own lists within -/
def nuAt (T : TC) (x : Str) : Option Nat := match T.N.idxOf? x with
  | some i => if T.nu.contains i && visB T x && okName x then some i else none
  | none => none
def trN (T : TC) (tr : Expr → Option E) : Expr → Option E
  | .Subscript (.Subscript (.Name x _) k _) j _ => match nuAt T x with
    | some i => if T.ny.contains i && plainIx k && plainIx j then (match tr k, tr j with
      | some k', some j' => some (.niy i k' j')
      | _, _ => none) else none
    | none => none
  | .Subscript (.Name x _) k _ => match nuAt T x with
    | some i => if plainIx k then (tr k).map (.nit i) else none
    | none => none
  | .Call (.Attribute (.Subscript (.Name x _) k _) nm pa) es [] pc => match nuAt T x, mtOf nm es.length, trL tr es, tr k with
    | some i, some m, some es', some k' => if plainIx k && (pa.endLine == pc.line) then some (.nmt m i k' es') else none
    | _, _, _, _ => none
  | .Call (.Name f _) [.Subscript (.Name x _) k _] [] _ => match nuAt T x, blP f 1, tr k with
    | some i, some p, some k' => if plainIx k && isBl T f && okName f && !(f == ("__name__" : Str)) then some (.npk p i k') else none
    | _, _, _ => none
  | _ => none
def trE : TC → Nat → Expr → Option E
  | _, 0, _ => none
  | T, n + 1, e => match trN T (trE T n) e with
   | some e' => some e'
   | none => match e with
    | .ListComp elt [⟨tg, iter, ifs, 0⟩] scope _ => trC T (fun T' => trE T' n) elt tg iter ifs scope
    | .Call (.Name x _) [.GeneratorExp elt [⟨tg, iter, ifs, 0⟩] scope _] [] _ => if x == ("tuple" : Str) && isBl T x then (trG T (fun T' => trE T' n) elt tg iter ifs scope).map fun c => .prim .tup [c]
      else if x == ("sorted" : Str) && isBl T x then (trG T (fun T' => trE T' n) elt tg iter ifs scope).map fun c => .prim .srt [c] else none
    | .Call (.Name x _) [.Call (.Name "range" _) [a] [] _] [] _ => if isBl T x && isBl T "range" && notStar a then (match rgP x, trE T n a with
      | some p, some a' => some (.prim p [a'])
      | _, _ => none) else none
    | .Call (.Name x _) [.Call (.Name "range" _) [a, b] [] _] [] _ => if isBl T x && isBl T "range" && notStar a && notStar b then (match rgP x, trE T n a, trE T n b with
      | some p, some a', some b' => some (.prim p [a', b'])
      | _, _, _ => none) else none
    | .Call (.Attribute (.Name x _) nm pa) es [] pc => (match T.N.idxOf? x, mtOf nm es.length, trL (trE T n) es with
      | some i, some m, some es' => if visB T x && okName x && (pa.endLine == pc.line) then some (.mth m i es') else none
      | _, _, _ => none)
    | .Subscript a (.Slice none none (some (.UnaryOp .USub (.Constant (.int 1) _ _) _)) _) _ => (trE T n a).map fun a' => .prim .rev [a']
    | e => trE1 T (trE T n) e

theorem relN_lookup {names sc : List (Str × NameKind)} {x : Str} : (relN names sc).lookup x = (names.lookup x).map fun k => if (k == .free && sc.lookup x == some .cell) then .cell else k := by
  induction names with
  | nil => rfl
  | cons p names ih =>
    obtain ⟨n, k⟩ := p
    have e : relN ((n, k) :: names) sc = (if (k == .free && sc.lookup n == some .cell) then (n, .cell) else (n, k)) :: relN names sc := rfl
    have e2 : (if (k == .free && sc.lookup n == some .cell) then (n, NameKind.cell) else (n, k)) = (n, if (k == .free && sc.lookup n == some .cell) then .cell else k) := by split <;> rfl
    rw [e, e2, List.lookup_cons, List.lookup_cons]
    cases hx : x == n with
    | true =>
      have := eq_of_beq hx
      subst this
      rfl
    | false => exact ih
section
variable {X : Cx} {T : TC} {W : WX} {xi : XI} {Γ : Gam} {k : Nat} {scope : Scope}
theorem sub_names (G : Good X T Γ W xi k) (i : BI) : (blkF X scope i).env.scope.names = relN scope.names T.names := by
  show (relS scope X.env.scope).names = _
  unfold relS relN
  dsimp only
  rw [G.sc, G.kind]
  refine List.map_congr_left fun p _ => ?_
  obtain ⟨n, k⟩ := p
  simp
theorem Good.blk (G : Good X T Γ W xi k) (hk : scope.kind = .function) (i : BI) : Good (blkF X scope i) (T.sub scope) Γ W0 xi k where
  N := G.N
  sc := sub_names G i
  calm := G.calm
  rm := G.rm
  tabs := G.tabs
  tk := takes0
  fn := fun x fi h => ⟨(G.fn x fi h).ex⟩
  cn := G.cn
  bl := G.bl
  nd := G.nd
  kind := hk
theorem blk_ok (G : Good X T Γ W xi k) {own : List (Str × Nat)} (h : blkC T.N (dumS T) scope own = true) : BlkOk X.N X.env.scope scope own := by
  have ok := blkOk_by h
  exact ⟨ok.kind, ok.uniq, by rw [G.N]; exact ok.ix, fun y hy e => by rw [G.sc]; exact ok.free y hy e, by rw [G.N]; exact ok.own⟩
def prOf (T : TC) (ws : List Nat) : List Nat := (List.range T.N.length).filter fun i => !ws.contains i
theorem trTc_okY {Y : Cx} (eN : Y.N = T.N) (nd : Y.N.Nodup) (calm : Y.calm = true) (hlk : ∀ x, scope.names.lookup x = some .local ∨ scope.names.lookup x = some .cell → Y.env.scope.names.lookup x = scope.names.lookup x) (hfn : ∀ x, scope.names.lookup x = some .cell → Y.fn x = true) {ws : List Nat} : ∀ (n : Nat) {e : Expr} {t' : Tg}, trTc T scope ws n e = some t' → PGD Y (prOf T ws) e t' := by
  intro n
  induction n with
  | zero => intro e t' h; unfold trTc at h; cases h
  | succ n ih =>
    intro e t' h
    unfold trTc at h
    split at h
    · rename_i x pos
      split at h
      · rename_i j hj
        split at h
        · rename_i hc
          cases h
          rw [Bool.and_eq_true] at hc
          have ho : scope.names.lookup x = some .local ∨ scope.names.lookup x = some .cell := by
            have := hc.2
            unfold ownB at this
            split at this <;> first | exact .inl (by assumption) | exact .inr (by assumption) | cases this
          have hl := hlk x ho
          refine pgd_name (X := Y) nd (by rw [eN]; exact idx_get hj) ?_ ?_ ?_
          · show _ ∨ _
            rw [hl]; exact ho
          · rcases ho with ho | ho
            · exact .inr (hl.trans ho)
            · exact .inl (hfn x ho)
          · unfold prOf
            rw [List.mem_filter]
            intro z
            have := z.2
            rw [hc.1] at this
            cases this
        · cases h
      · cases h
    · rename_i es kk pos
      rw [Option.map_eq_some_iff] at h
      obtain ⟨ts, h1, rfl⟩ := h
      have all : ∀ {es : List Expr} {ts : List Tg}, trTs (trTc T scope ws n) es = some ts → PGsD Y (prOf T ws) es ts ∧ es.all notStar = true ∧ ts.length = es.length := by
        intro es
        induction es with
        | nil => intro ts h; cases h; exact ⟨pgsd_nil, rfl, rfl⟩
        | cons e es ihh =>
          intro ts h
          unfold trTs at h
          cases e1 : trTc T scope ws n e with
          | none => rw [e1] at h; cases h
          | some a =>
            cases e2 : trTs (trTc T scope ws n) es with
            | none => rw [e1, e2] at h; cases h
            | some r =>
              rw [e1, e2] at h
              dsimp only at h
              split at h
              · rename_i hs
                cases h
                obtain ⟨q1, q2, q3⟩ := ihh e2
                exact ⟨pgsd_cons (ih e1) q1 hs, by rw [List.all_cons, hs, q2]; rfl, by rw [List.length_cons, List.length_cons, q3]⟩
              · cases h
      obtain ⟨q1, q2, q3⟩ := all h1
      exact pgd_tup (X := Y) calm q1 q2 q3
    · cases h
theorem trTc_ok (G : Good X T Γ W xi k) {ws : List Nat} (i : BI) (n : Nat) {e : Expr} {t' : Tg} (h : trTc T scope ws n e = some t') : PGD (blkF X scope i) (prOf T ws) e t' := by
  refine trTc_okY (Y := blkF X scope i) G.N G.nd G.calm (fun x ho => ?_) (fun x ho => ?_) n h
  · rw [sub_names G i (scope := scope), relN_lookup]
    rcases ho with ho | ho <;> rw [ho] <;> rfl
  · show (scope.names.lookup x == some .cell) = true
    rw [ho]; rfl
theorem trTc_okG (G : Good X T Γ W xi k) {ws : List Nat} (i : GIx k) (n : Nat) {e : Expr} {t' : Tg} (h : trTc T scope ws n e = some t') : PGD (gnF X scope i) (prOf T ws) e t' := by
  refine trTc_okY (scope := scope) (Y := gnF X scope i) G.N G.nd G.calm (fun x ho => rfl) (fun x ho => ?_) n h
  show (scope.names.lookup x == some .cell) = true
  have ho : scope.names.lookup x = some .cell := ho
  rw [ho]; rfl
theorem Good.gen (G : Good X T Γ W xi k) (hk : scope.kind = .function) (i : GIx k) : Good (gnF X scope i) (T.subG scope) Γ W0 xi k where
  N := G.N
  sc := rfl
  calm := G.calm
  rm := i.room
  tabs := .inl rfl
  tk := takes0
  fn := fun x fi h => ⟨(G.fn x fi h).ex⟩
  cn := G.cn
  bl := G.bl
  nd := G.nd
  kind := hk
theorem gsc_ok (G : Good X T Γ W xi k) (hb : blkC T.N (dumS T) scope (ownS T scope) = true) (h : gscB T.N scope = true) : GSc X scope (ownS T scope) := by
  unfold gscB at h
  simp only [Bool.and_eq_true, Bool.not_eq_true', List.all_eq_true, decide_eq_true_eq] at h
  obtain ⟨⟨⟨h1, h2⟩, h3⟩, h4⟩ := h
  exact ⟨blk_ok G hb, h1, h2, h3, by rw [G.N]; exact h4⟩
theorem fold_ok {e : Expr} {env : PySem.Env} (h : notSet e = true) : ∀ x, foldedSetIterable e env x = pure x := by
  intro x
  cases e <;> first | rfl | cases h
theorem trI1_ok (G : Good X T Γ W xi k) {tr : Expr → Option E} (IH : ∀ e e', tr e = some e' → Snd X W xi Γ e e') {tg e : Expr} {ik : Nat} {ies : List E} (h : trI1 T tr tg e = some (ik, ies)) : PID X W xi tg e (evI Γ ik ies) ∧ ∀ x, foldedSetIterable e X.env x = pure x := by
  unfold trI1 at h
  split at h
  · rename_i px a pos
    split at h
    · rename_i hc
      simp only [Bool.and_eq_true] at hc
      obtain ⟨⟨h1, h2⟩, h3⟩ := hc
      rw [Option.map_eq_some_iff] at h
      obtain ⟨a', ha, e⟩ := h
      cases e
      obtain ⟨hg, hm⟩ := blt_of G h2
      cases tg <;> first | cases h1 | skip
      exact ⟨pid_enum hg hm (IH _ _ ha).pd h3, fun _ => rfl⟩
    · cases h
  · rename_i px a pos
    split at h
    · rename_i hc
      simp only [Bool.and_eq_true] at hc
      obtain ⟨h2, h3⟩ := hc
      rw [Option.map_eq_some_iff] at h
      obtain ⟨a', ha, e⟩ := h
      cases e
      obtain ⟨hg, hm⟩ := blt_of G h2
      exact ⟨pid_rev hg hm (IH _ _ ha).pd h3, fun _ => rfl⟩
    · cases h
  · rename_i x px es kws pos _ _
    refine ⟨?_, fun _ => rfl⟩
    split at h
    · rename_i hc
      simp only [Bool.and_eq_true] at hc
      obtain ⟨⟨h1, h2⟩, h3⟩ := hc
      have hx := eq_of_beq h1
      subst hx
      have hk := List.isEmpty_iff.mp h3
      subst hk
      obtain ⟨hg, hm⟩ := blt_of G h2
      split at h
      · rename_i a
        split at h
        · rename_i hs
          rw [Option.map_eq_some_iff] at h
          obtain ⟨a', ha, e⟩ := h
          cases e
          exact pid_rg1 hg hm (pld_cons (IH _ _ ha).pd pld_nil (starEach_cons hs)) hs
        · cases h
      · rename_i a b
        split at h
        · rename_i hs
          rw [Bool.and_eq_true] at hs
          split at h
          · rename_i a' b' ha hb
            cases h
            exact pid_rg2 hg hm (pld_cons (IH _ _ ha).pd (pld_cons (IH _ _ hb).pd pld_nil (starEach_cons hs.2)) (starEach_cons hs.1)) hs.1 hs.2
          · cases h
        · cases h
      · cases h
    · rw [Option.map_eq_some_iff] at h
      obtain ⟨e', he, e⟩ := h
      cases e
      exact pid_seq (IH _ _ he).pd
  · split at h
    · rename_i hs
      rw [Option.map_eq_some_iff] at h
      obtain ⟨e', he, e⟩ := h
      cases e
      exact ⟨pid_seq (IH _ _ he).pd, fold_ok hs⟩
    · cases h
theorem trI1_var {tr : Expr → Option E} (IH : ∀ e e', tr e = some e' → Snd X W xi Γ e e') {tg e : Expr} {i : Nat} (h : trI1 T tr tg e = some (0, [.var i])) : PE X e (tVar i) := by
  have key : ∀ {e : Expr}, tr e = some (.var i) → PE X e (tVar i) := fun {e} h => by
    obtain ⟨t, ht, rfl⟩ := (IH _ _ h).var i rfl
    exact ht
  have one : ∀ {e : Expr}, (tr e).map (fun e' => ((0 : Nat), [e'])) = some (0, [.var i]) → PE X e (tVar i) := fun {e} h => by
    rw [Option.map_eq_some_iff] at h
    obtain ⟨e', he, q⟩ := h
    cases q
    exact key he
  unfold trI1 at h
  split at h
  · split at h
    · rw [Option.map_eq_some_iff] at h
      obtain ⟨_, _, q⟩ := h
      cases q
    · cases h
  · split at h
    · rw [Option.map_eq_some_iff] at h
      obtain ⟨_, _, q⟩ := h
      cases q
    · cases h
  · split at h
    · split at h
      · split at h
        · rw [Option.map_eq_some_iff] at h
          obtain ⟨_, _, q⟩ := h
          cases q
        · cases h
      · split at h
        · split at h <;> cases h
        · cases h
      · cases h
    · exact one h
  · split at h
    · exact one h
    · cases h
theorem trFs_ok {X : Cx} {W : WX} {xi : XI} {Γ : Gam} {tr : Expr → Option E} (IH : ∀ e e', tr e = some e' → Snd X W xi Γ e e') {ifs : List Expr} {fs : List E} (h : trFs tr ifs = some fs) : PTsD X W xi ifs (evTs Γ fs) := by
  unfold trFs at h
  split at h
  · cases h; exact ptsd_nil
  · rw [Option.map_eq_some_iff] at h
    obtain ⟨c', hc, rfl⟩ := h
    exact ptsd_one (IH _ _ hc).ptd
  · cases h
/-- what a translated comprehension comes to -/
structure CompOk (X : Cx) (W : WX) (xi : XI) (Γ : Gam) (elt tg iter : Expr) (ifs : List Expr) (scope : Scope) (own : List (Str × Nat)) (c : E) : Prop where
  ok : BlkOk X.N X.env.scope scope own
  fold : ∀ x, foldedSetIterable iter X.env x = pure x
  ex : ∃ wi, PI X tg iter wi ∧ ∀ (Xs : Ad) (σ : L2.St) (H : Hp) (l : Loc) (M : Ad) (Q : VK), σ.length = X.N.length → RepLoc xi.tb X.K Xs M σ H l →
      Po ⟨X.K, Xs, W, xi, σ⟩ M H (fun s l' M' H' => ∀ v, RepR X.K Xs M' σ l' H' v s → Q v H') (evX Γ c l) → tLc wi (wGt (blkF X scope) tg) (wTs (blkF X scope) ifs) (wE (blkF X scope) elt) (own.map (·.2)) σ H Q
theorem trC_ok (G : Good X T Γ W xi k) {trf : TC → Expr → Option E} (IH : ∀ e e', trf T e = some e' → Snd X W xi Γ e e') (IH2 : ∀ i e e', trf (T.sub scope) e = some e' → scope.kind = .function → Snd (blkF X scope i) W0 xi Γ e e') {elt tg iter : Expr} {ifs : List Expr} {c : E} (h : trC T trf elt tg iter ifs scope = some c) :
    CompOk X W xi Γ elt tg iter ifs scope (ownS T scope) c ∧ (∀ i, c ≠ .var i) ∧ ∀ l, evT Γ c l = .bad := by
  unfold trC at h
  split at h
  · rename_i hb
    have ok := blk_ok G hb
    split at h
    · rename_i t' ik ies e' fs h1 h2 h3 h4
      cases h
      obtain ⟨q1, q2⟩ := trI1_ok (tg := tg) G IH h2
      have hpr : ∀ j, j < X.N.length → j ∉ (ownS T scope).map (·.2) → j ∈ prOf T ((ownS T scope).map (·.2)) := fun j hj hv => by
        unfold prOf
        rw [List.mem_filter, List.mem_range, ← G.N]
        exact ⟨hj, by simpa using hv⟩
      by_cases hpk : ∃ i, ik = 0 ∧ ies = [.var i] ∧ T.mu.contains i = true
      · obtain ⟨i, rfl, rfl, hi⟩ := hpk
        have ec : mkC T e' t' 0 [.var i] fs ((ownS T scope).map (·.2)) = .cpk e' t' i fs ((ownS T scope).map (·.2)) := by
          unfold mkC; exact if_pos hi
        rw [ec]
        exact ⟨⟨ok, q2, pd_lc_pk (trI1_var IH h2) (fun i => trTc_ok G i _ h1) (fun i => trFs_ok (fun e e' h => IH2 i e e' h ok.kind) h4) (fun i => (IH2 i _ _ h3 ok.kind).pd) hpr⟩, (fun i z => nomatch z), (fun l => by rw [evT.eq_def])⟩
      have ec : mkC T e' t' ik ies fs ((ownS T scope).map (·.2)) = .comp e' t' ik ies fs ((ownS T scope).map (·.2)) := by
        unfold mkC
        split
        · rename_i i
          exact if_neg fun z => hpk ⟨i, rfl, rfl, z⟩
        · rfl
      rw [ec]
      refine ⟨⟨ok, q2, pd_lc_core q1 (fun i => trTc_ok G i _ h1) (fun i => trFs_ok (fun e e' h => IH2 i e e' h ok.kind) h4) (fun i => (IH2 i _ _ h3 ok.kind).pd) fun j hj hv => ?_⟩, (fun i z => nomatch z), (fun l => by rw [evT.eq_def])⟩
      unfold prOf
      rw [List.mem_filter, List.mem_range, ← G.N]
      exact ⟨hj, by simpa using hv⟩
    · cases h
  · cases h
theorem CompOk.pd {elt tg iter : Expr} {ifs : List Expr} {own : List (Str × Nat)} {c : E} {pos : Pos} (h : CompOk X W xi Γ elt tg iter ifs scope own c) (hc : X.calm = true) (hN : X.N.Nodup) : PD X W xi (.ListComp elt [⟨tg, iter, ifs, 0⟩] scope pos) (evX Γ c) := by
  obtain ⟨wi, hwi, q⟩ := h.ex
  refine ⟨fun σ H Q => σ.length = X.N.length → tLc wi (wGt (blkF X scope) tg) (wTs (blkF X scope) ifs) (wE (blkF X scope) elt) (own.map (·.2)) σ H Q, ⟨fun pins s σ H Q I hh =>
    (pe_lc hc hN hwi h.ok (fun s H C cl fp => wG_pg (blkF X scope) tg ⟨s, H, C, cl, fp⟩) (fun s H C cl fp => wTs_pts (blkF X scope) ifs ⟨s, H, C, cl, fp⟩) (fun s H C cl fp => wE_pe (blkF X scope) elt ⟨s, H, C, cl, fp⟩) h.fold).run pins s σ H Q I (hh I.len)⟩,
    fun Xs σ H l M Q r k hl => q Xs σ H l M Q hl r k⟩
end
/-- what a comprehension run as data comes to -/
def runC (Γ : Gam) (c : E) (l : Loc) : R (List D × Loc) := match evX Γ c l with
  | .ok (.own ds, l1) => .ok (ds, l1)
  | .exc x l1 => .exc x l1
  | _ => .bad
structure GenOk (X : Cx) (W : WX) (xi : XI) (Γ : Gam) (k : Nat) (e : Expr) (c : E) : Prop where
  var : ∀ i, c ≠ .var i
  own : ∀ l s l1, evX Γ c l = .ok (s, l1) → ∃ ds, s = .own ds
  ex : ∃ tg : TGen, PGen X (k + 1) e tg noX ∧ ∀ (Xs : Ad) (σ : L2.St) (H : Hp) (l : Loc) (M : Ad) (cont : List V → Hp → Prop), σ.length = X.N.length → RepLoc xi.tb X.K Xs M σ H l →
    Po ⟨X.K, Xs, W, xi, σ⟩ M H (fun s l' M' H' => ∀ out, RepL X.K (Fb Xs M') H' out s → cont out H') (runC Γ c l) → tg σ H cont
section
variable {X : Cx} {T : TC} {W : WX} {xi : XI} {Γ : Gam} {k : Nat} {scope : Scope}
theorem evX_comp (Γ : Gam) (e' : E) (t' : Tg) (ik : Nat) (ies fs : List E) (ws : List Nat) (l : Loc) : evX Γ (.comp e' t' ik ies fs ws) l = (evI Γ ik ies l).bind fun r => match compL (bindT t') (evTs Γ fs) (evX Γ e') ws r.1 [] (wipeD r.2 ws) with
      | .ok (ds, l1) => .ok (.own ds, l1)
      | _ => .bad := by
  rw [evX.eq_def]
  unfold evI
  dsimp only
  cases evDs Γ ies l with
  | bad => rfl
  | exc x l => rfl
  | ok r =>
    dsimp only [R.bind]
    cases items ik r.1 <;> rfl
theorem trG_ok (G : Good X T Γ W xi k) {trf : TC → Expr → Option E} (IH : ∀ e e', trf T e = some e' → Snd X W xi Γ e e') (IH2 : ∀ (i : GIx k) e e', trf (T.subG scope) e = some e' → scope.kind = .function → Snd (gnF X scope i) W0 xi Γ e e') {elt tg iter : Expr} {ifs : List Expr} {gpos : Pos} {c : E} (h : trG T trf elt tg iter ifs scope = some c) :
    T.gd = 6 ∧ GenOk X W xi Γ k (geC elt tg iter ifs scope gpos) c := by
  unfold trG at h
  split at h
  · rename_i hb
    simp only [Bool.and_eq_true, decide_eq_true_eq] at hb
    obtain ⟨hgd, hblk, hgs, hnl⟩ := hb
    have S := gsc_ok G hblk hgs
    split at h
    · rename_i t' ik ies e' fs h1 h2 h3 h4
      cases h
      obtain ⟨q1, q2⟩ := trI1_ok (tg := tg) G IH h2
      rcases G.tabs with z | ⟨_, cc, P, hcode, TB, hP⟩
      · rw [hgd] at z; cases z
      have hfold : ∀ v, genFold iter X.env v = pure v := fun v => by
        unfold genFold
        cases iter <;> first | exact q2 v | cases hnl
      refine ⟨hgd, ⟨(fun i z => nomatch z), fun l s l1 e => ?_, ?_⟩⟩
      · rw [evX_comp] at e
        cases e1 : evI Γ ik ies l with
        | bad => rw [e1] at e; cases e
        | exc x l => rw [e1] at e; cases e
        | ok r =>
          rw [e1] at e
          dsimp only [R.bind] at e
          split at e
          · cases e; exact ⟨_, rfl⟩
          · cases e
      · obtain ⟨wi, hwi, q⟩ := ge_core (W := W) (k := k) (P := P) (ws := (ownS T scope).map (·.2)) q1 (fun i => trTc_okG G i _ h1) (fun i => trFs_ok (fun e e' h => IH2 i e e' h S.ok.kind) h4) (fun i => (IH2 i _ _ h3 S.ok.kind).pd) (fun j hj hv => by
          unfold prOf
          rw [List.mem_filter, List.mem_range, ← G.N]
          exact ⟨hj, by simpa using hv⟩) hP
        refine ⟨_, pgen_ge G.room TB hcode S hwi hfold G.nd G.calm (fun i => wG_pg (fun i : GIx k => gnF X scope i) tg i) (fun i => wTs_pts (fun i : GIx k => gnF X scope i) ifs i) (fun i => wE_pe (fun i : GIx k => gnF X scope i) elt i), fun Xs σ H l M cont hσ r kk => q Xs σ H l M cont hσ r ?_⟩
        unfold runC at kk
        rw [evX_comp] at kk
        cases e1 : evI Γ ik ies l with
        | bad => rw [e1] at kk; exact kk
        | exc x l => rw [e1] at kk; exact kk
        | ok r =>
          rw [e1] at kk
          dsimp only [R.bind] at kk ⊢
          cases e2 : compL (bindT t') (evTs Γ fs) (evX Γ e') ((ownS T scope).map (·.2)) r.1 [] (wipeD r.2 ((ownS T scope).map (·.2))) with
          | ok r2 => rw [e2] at kk; exact kk
          | exc x l => rw [e2] at kk; exact kk
          | bad => rw [e2] at kk; exact kk
    · cases h
  · cases h
theorem evX_tup1 (Γ : Gam) {c : E} (hv : ∀ i, c ≠ .var i) (l : Loc) : evX Γ (.prim .tup [c]) l = (evX Γ c l).bind fun r => match primD .tup [r.1.d] with
    | some s => .ok (s, r.2)
    | none => .bad := by
  rw [evX.eq_def]
  dsimp only
  rw [evAs_one]
  have e : evA1 Γ c l = (evX Γ c l).bind fun r => .ok (.dat r.1.d, r.2) := by
    unfold evA1
    cases c <;> first | rfl | exact absurd rfl (hv _)
  rw [e]
  cases evX Γ c l <;> rfl
theorem pd_tupG {e : Expr} {c : E} {px pos : Pos} (h : GenOk X W xi Γ k e c) (hr : Room (k + 6) X.A) (hg : Gl X ("tuple" : Str)) (hm : X.mg ("tuple" : Str) = none) (he : starEach [e] X.env = (false, eval e X.env) :: starEach [] X.env) :
    PD X W xi (.Call (.Name "tuple" px) [e] [] pos) (evX Γ (.prim .tup [c])) := by
  obtain ⟨tg, hp, q⟩ := h.ex
  refine ⟨fun σ H Q => σ.length = X.N.length → tTupG tg σ H Q, ⟨fun pins s σ H Q I hh => (pe_tupG hp hr hg hm (by decide +kernel) (he := he)).run pins s σ H Q I (hh I.len)⟩, fun Xs σ H l M Q r kk hl => ?_⟩
  refine q Xs σ H l M _ hl r ?_
  rw [evX_tup1 Γ h.var] at kk
  unfold runC
  cases e1 : evX Γ c l with
  | bad => rw [e1] at kk; exact kk
  | exc x l => rw [e1] at kk; exact kk
  | ok z =>
    obtain ⟨s, l1⟩ := z
    obtain ⟨ds, rfl⟩ := h.own _ _ _ e1
    rw [e1] at kk
    intro M' H' st rl out ro S p nS np
    have st2 : Step M' H' M' (upd H' S (.lst out)) := Step.new nS
    have st3 : Step M' (upd H' S (.lst out)) M' (upd (upd H' S (.lst out)) p (.tup out)) := Step.new np
    have rl2 := rl.new (o := .lst out) nS
    have rl3 := rl2.new (o := .tup out) np
    exact kk M' _ (st.trans (st2.trans st3)) rl3 (.ref p) (Rep.tup (.inl ⟨.inl upd_same, rl2.fresh np⟩) (RepL.step st3 (RepL.step st2 ro)))
end
theorem evX_srt1 (Γ : Gam) {c : E} (hv : ∀ i, c ≠ .var i) (l : Loc) : evX Γ (.prim .srt [c]) l = (evX Γ c l).bind fun r => match primD .srt [r.1.d] with
    | some s => .ok (s, r.2)
    | none => .bad := by
  rw [evX.eq_def]
  dsimp only
  rw [evAs_one]
  have e : evA1 Γ c l = (evX Γ c l).bind fun r => .ok (.dat r.1.d, r.2) := by
    unfold evA1
    cases c <;> first | rfl | exact absurd rfl (hv _)
  rw [e]
  cases evX Γ c l <;> rfl
section
variable {X : Cx} {T : TC} {W : WX} {xi : XI} {Γ : Gam} {k : Nat} {scope : Scope}
theorem pd_srtG {e : Expr} {c : E} {px pos : Pos} (h : GenOk X W xi Γ k e c) (hr : Room (k + 6) X.A) (hg : Gl X ("sorted" : Str)) (hm : X.mg ("sorted" : Str) = none) (he : starEach [e] X.env = (false, eval e X.env) :: starEach [] X.env) :
    PD X W xi (.Call (.Name "sorted" px) [e] [] pos) (evX Γ (.prim .srt [c])) := by
  obtain ⟨tg, hp, q⟩ := h.ex
  refine ⟨fun σ H Q => σ.length = X.N.length → tSortG X.K tg σ H Q, ⟨fun pins s σ H Q I hh => (pe_sortG hp hr hg hm (by decide +kernel) (he := he)).run pins s σ H Q I (hh I.len)⟩, fun Xs σ H l M Q r kk hl => ?_⟩
  refine q Xs σ H l M _ hl r ?_
  rw [evX_srt1 Γ h.var] at kk
  unfold runC
  cases e1 : evX Γ c l with
  | bad => rw [e1] at kk; exact kk
  | exc x l => rw [e1] at kk; exact kk
  | ok z =>
    obtain ⟨s, l1⟩ := z
    obtain ⟨ds, rfl⟩ := h.own _ _ _ e1
    rw [e1] at kk
    dsimp only [R.bind] at kk
    simp only [Sl.d_own, primD] at kk
    by_cases hz : srtOk ds = true
    · rw [if_pos hz] at kk
      intro M' H' st rl out ro
      refine ⟨Fb Xs M', ds, ro, hz, fun S p ys nS np ry => ?_⟩
      have st2 : Step M' H' M' (upd H' S (.lst out)) := Step.new nS
      have rl2 := rl.new (o := .lst out) nS
      exact fin_of (C := ⟨X.K, Xs, W, xi, σ⟩) (s := .own (srtD ds)) rl2 (Po.shift (C := ⟨X.K, Xs, W, xi, σ⟩) kk (st.trans st2)) (by intro z; cases z) p ys np ry
    · rw [if_neg hz] at kk; exact kk.elim
end
theorem nuAt_ok {X : Cx} {T : TC} {W : WX} {xi : XI} {Γ : Gam} {k : Nat} (G : Good X T Γ W xi k) {x : Str} {i : Nat} (h : nuAt T x = some i) (pos : Pos) : PE X (.Name x pos) (tVar i) := by
  unfold nuAt at h
  split at h
  · rename_i j hj
    split at h
    · rename_i hc
      cases h
      simp only [Bool.and_eq_true] at hc
      have hd := okName_d hc.2
      exact pe_var (by rw [G.N]; exact idx_get hj) (G.vis hc.1.2) hd.1 hd.2
    · cases h
  · cases h
theorem trN_ok {X : Cx} {T : TC} {W : WX} {xi : XI} {Γ : Gam} {k : Nat} (G : Good X T Γ W xi k) {tr : Expr → Option E} (IH : ∀ e e', tr e = some e' → Snd X W xi Γ e e') {e : Expr} {e' : E} (h : trN T tr e = some e') : Snd X W xi Γ e e' := by
  unfold trN at h
  split at h
  · split at h
    · rename_i i hi
      split at h
      · rename_i hc
        simp only [Bool.and_eq_true] at hc
        split at h
        · rename_i k' j' h1 h2
          cases h
          exact .bad (pd_niy (nuAt_ok G hi _) (IH _ _ h1).pd (plainIx_ok hc.1.2) (IH _ _ h2).pd (plainIx_ok hc.2)) (fun i z => nomatch z) (fun l => by rw [evT.eq_def]) (fun _ _ _ z => nomatch z)
        · cases h
      · cases h
    · cases h
  · split at h
    · rename_i i hi
      split at h
      · rename_i hc
        rw [Option.map_eq_some_iff] at h
        obtain ⟨k', h1, rfl⟩ := h
        exact .bad (pd_nit (nuAt_ok G hi _) (IH _ _ h1).pd (plainIx_ok hc)) (fun i z => nomatch z) (fun l => by rw [evT.eq_def]) (fun _ _ _ z => nomatch z)
      · cases h
    · cases h
  · rename_i x px kx ps nm pa es pc
    split at h
    · rename_i i m es' k' hi h1 h2 h3
      split at h
      · rename_i hc
        simp only [Bool.and_eq_true] at hc
        cases h
        obtain ⟨_, p2, p3, p4⟩ := trL_ok IH h2
        cases es with
        | nil =>
          have := List.eq_nil_of_length_eq_zero p3
          subst this
          exact .bad (pd_nmt0 (nuAt_ok G hi _) (IH _ _ h3).pd (plainIx_ok hc.1) h1 hc.2) (fun i z => nomatch z) (fun l => by rw [evT.eq_def]) (fun _ _ _ z => nomatch z)
        | cons e es => exact .bad (pd_nmt (nuAt_ok G hi _) (IH _ _ h3).pd (plainIx_ok hc.1) p2 p4 h1 hc.2) (fun i z => nomatch z) (fun l => by rw [evT.eq_def]) (fun _ _ _ z => nomatch z)
      · cases h
    · cases h
  · split at h
    · rename_i i p k' hi h1 h2
      split at h
      · rename_i hc
        simp only [Bool.and_eq_true, Bool.not_eq_true'] at hc
        cases h
        exact .bad (pd_bltG G hc.1.1.2 hc.1.2 hc.2 h1 (npk_core (nuAt_ok G hi _) (IH _ _ h2).pd (plainIx_ok hc.1.1.1)) rfl) (fun i z => nomatch z) (fun l => by rw [evT.eq_def]) (fun _ _ _ z => nomatch z)
      · cases h
    · cases h
  · cases h
theorem sndE : ∀ (n : Nat) {X : Cx} {T : TC} {W : WX} {xi : XI} {Γ : Gam} {k : Nat} {e : Expr} {e' : E}, Good X T Γ W xi k → trE T n e = some e' → Snd X W xi Γ e e' := by
  intro n
  induction n with
  | zero => intro X T W xi Γ k e e' G h; unfold trE at h; cases h
  | succ n ih =>
    intro X T W xi Γ k e e' G h
    unfold trE at h
    split at h
    · rename_i e2 h2
      cases h
      exact trN_ok G (fun e e' h => ih G h) h2
    rename_i hz
    clear hz
    split at h
    · obtain ⟨q1, q2, q3⟩ := trC_ok (trf := fun T' => trE T' n) G (fun e e' h => ih G h) (fun i e e' h hk => ih (G.blk hk i) h) h
      exact .bad (q1.pd G.calm G.nd) q2 q3 (fun _ _ _ z => nomatch z)
    · split at h
      · rename_i hx
        rw [Bool.and_eq_true] at hx
        rw [Option.map_eq_some_iff] at h
        obtain ⟨c, hc, rfl⟩ := h
        have hx1 := eq_of_beq hx.1
        subst hx1
        obtain ⟨hg, hm⟩ := blt_of G hx.2
        obtain ⟨q0, q1⟩ := trG_ok (trf := fun T' => trE T' n) (gpos := _) G (fun e e' h => ih G h) (fun i e e' h hk => ih (G.gen hk i) h) hc
        exact .plain (pd_tupG q1 (by have := G.rm; rw [q0] at this; exact this) hg hm rfl) (fun i z => nomatch z) rfl (fun _ => rfl) (fun _ _ _ z => nomatch z)
      split at h
      · rename_i hx
        rw [Bool.and_eq_true] at hx
        rw [Option.map_eq_some_iff] at h
        obtain ⟨c, hc, rfl⟩ := h
        have hx1 := eq_of_beq hx.1
        subst hx1
        obtain ⟨hg, hm⟩ := blt_of G hx.2
        obtain ⟨q0, q1⟩ := trG_ok (trf := fun T' => trE T' n) (gpos := _) G (fun e e' h => ih G h) (fun i e e' h hk => ih (G.gen hk i) h) hc
        exact .plain (pd_srtG q1 (by have := G.rm; rw [q0] at this; exact this) hg hm rfl) (fun i z => nomatch z) rfl (fun _ => rfl) (fun _ _ _ z => nomatch z)
      · cases h
    · split at h
      · rename_i hx
        simp only [Bool.and_eq_true] at hx
        split at h
        · rename_i p a' h1 h2
          cases h
          obtain ⟨hg, hm⟩ := blt_of G hx.1.1
          obtain ⟨hg2, hm2⟩ := blt_of G hx.1.2
          exact .plain (pd_rg1 G.calm h1 hg hm hg2 hm2 (ih G h2).pad hx.2) (fun i z => nomatch z) rfl (fun _ => rfl) (fun _ _ _ z => nomatch z)
        · cases h
      · cases h
    · split at h
      · rename_i hx
        simp only [Bool.and_eq_true] at hx
        split at h
        · rename_i p a' b' h1 h2 h3
          cases h
          obtain ⟨hg, hm⟩ := blt_of G hx.1.1.1
          obtain ⟨hg2, hm2⟩ := blt_of G hx.1.1.2
          exact .plain (pd_rg2 G.calm h1 hg hm hg2 hm2 (ih G h2).pad (ih G h3).pad hx.1.2 hx.2) (fun i z => nomatch z) rfl (fun _ => rfl) (fun _ _ _ z => nomatch z)
        · cases h
      · cases h
    · rename_i x px nm pa es pc
      split at h
      · rename_i i m es' h1 h2 h3
        split at h
        · rename_i hx
          simp only [Bool.and_eq_true] at hx
          cases h
          have hd := okName_d hx.1.2
          have pv := fun pos => pe_var (X := X) (i := i) (pos := pos) (by rw [G.N]; exact idx_get h1) (G.vis hx.1.1) hd.1 hd.2
          obtain ⟨_, p2, p3, p4⟩ := trL_ok (fun e e' h => ih G h) h3
          cases es with
          | nil =>
            have := List.eq_nil_of_length_eq_zero p3
            subst this
            exact .bad (pd_mth0 (pv _) h2 hx.2) (fun i z => nomatch z) (fun l => by rw [evT.eq_def]) (fun _ _ _ z => nomatch z)
          | cons e es => exact .bad (pd_mth (pv _) p2 p4 h2 hx.2) (fun i z => nomatch z) (fun l => by rw [evT.eq_def]) (fun _ _ _ z => nomatch z)
        · cases h
      · cases h
    · rw [Option.map_eq_some_iff] at h
      obtain ⟨a', h1, rfl⟩ := h
      exact .plain (pd_revsl (ih G h1).pad) (fun i z => nomatch z) rfl (fun _ => rfl) (fun _ _ _ z => nomatch z)
    rename_i z1 z2 z3 z4 z5 z6
    clear z1 z2 z3 z4 z5 z6
    have IH : ∀ e e', trE T n e = some e' → Snd X W xi Γ e e' := fun e e' h => ih G h
    have hu : X.A.units + 65 < cLine := by have := G.room.un; omega
    generalize trE T n = tr at h IH
    unfold trE1 at h
    split at h
    · cases h; exact .plain (pd_cst pe_int fun _ _ => Rep.int _) (fun i z => nomatch z) rfl (fun _ => rfl) (fun _ _ _ z => nomatch z)
    · cases h; exact .plain (pd_cst pe_bl fun _ _ => Rep.bl _) (fun i z => nomatch z) rfl (fun _ => rfl) (fun _ _ _ z => nomatch z)
    · cases h; exact .plain (pd_cst pe_non fun _ _ => Rep.non) (fun i z => nomatch z) rfl (fun _ => rfl) (fun _ _ _ z => nomatch z)
    · cases h; exact .plain (pd_cst pe_str fun _ _ => Rep.str _) (fun i z => nomatch z) rfl (fun _ => rfl) (fun _ _ _ z => nomatch z)
    · -- a name
      split at h
      · rename_i i hi
        split at h
        · rename_i hc
          rw [Bool.and_eq_true] at hc
          cases h
          have hd := okName_d hc.2
          have pv := fun pos => pe_var (X := X) (i := i) (pos := pos) (by rw [G.N]; exact idx_get hi) (G.vis hc.1) hd.1 hd.2
          exact .plain (pd_var (pv _)) (fun j z => by cases z; exact ⟨_, pv _, rfl⟩) rfl (fun _ => rfl) (fun _ _ _ z => nomatch z)
        · cases h
      · split at h
        · rename_i hc
          rw [Bool.and_eq_true] at hc
          rw [Option.map_eq_some_iff] at h
          obtain ⟨d, hd, rfl⟩ := h
          obtain ⟨u, v, h1, h2, h3⟩ := G.cn _ _ hd
          exact .plain (pd_cst (pe_glob (G.gl hc.1) h1 h2 (okName_d hc.2).1) h3) (fun i z => nomatch z) rfl (fun _ => rfl) (fun _ _ _ z => nomatch z)
        · cases h
    · -- a op b
      split at h
      · rename_i p a' b' h1 h2 h3
        cases h
        exact .plain (pd_bin (opP_ok h1) (IH _ _ h2).pad (IH _ _ h3).pad) (fun i z => nomatch z) rfl (fun _ => rfl) (fun _ _ _ z => nomatch z)
      · cases h
    · -- -a
      rw [Option.map_eq_some_iff] at h
      obtain ⟨a', h1, rfl⟩ := h
      exact .plain (pd_neg (IH _ _ h1).pad) (fun i z => nomatch z) rfl (fun _ => rfl) (fun _ _ _ z => nomatch z)
    · -- not a
      rw [Option.map_eq_some_iff] at h
      obtain ⟨a', h1, rfl⟩ := h
      exact ⟨pd_not (IH _ _ h1).pd, ptd_not (IH _ _ h1).ptd, (fun i z => nomatch z), (fun _ _ _ z => nomatch z)⟩
    · -- a op b, compared
      split at h
      · rename_i p a' b' h1 h2 h3
        split at h
        · cases h
        · rename_i hm
          cases h
          have hm' := Bool.eq_false_iff.mpr hm
          exact ⟨pd_cmp (cmpP_ok hu h1) (IH _ _ h2).pad (IH _ _ h3).pad hm', ptd_cmp (cmpP_ok hu h1) (IH _ _ h2).pad (IH _ _ h3).pad hm' (cmpP_bl h1), (fun i z => nomatch z), (fun _ _ _ z => nomatch z)⟩
      · cases h
    · split at h
      · rename_i p q a' b' c' h1 h2 h3 h4 h5
        split at h
        · cases h
        · rename_i hm
          cases h
          have hm' := Bool.eq_false_iff.mpr hm
          exact ⟨pd_chain (cmpP_ok hu h1) (cmpP_ok hu h2) (IH _ _ h3).pd (IH _ _ h4).pd (IH _ _ h5).pd hm', ptd_chain (cmpP_ok hu h1) (cmpP_ok hu h2) (IH _ _ h3).pd (IH _ _ h4).pd (IH _ _ h5).pd hm' (cmpP_bl h2), (fun i z => nomatch z), (fun _ _ _ z => nomatch z)⟩
      · cases h
    · -- [a] of and, or
      rename_i o a pos
      have s := IH _ _ h
      obtain ⟨t, ht, q⟩ := s.pd.ex
      have pw : PWD X W xi (.BoolOp o [a] pos) (evT Γ e') := by
        cases o with
        | And => exact ⟨ptd_and1 s.ptd⟩
        | Or => exact ⟨ptd_or1 s.ptd⟩
      exact ⟨⟨t, pe_one ht, q⟩, pw.ptd, fun i z => by
        obtain ⟨t, ht, e⟩ := s.var i z
        exact ⟨t, pe_one ht, e⟩, fun _ _ _ z => pw⟩
    · split at h
      · rename_i a' b' h1 h2
        cases h
        have s1 := IH _ _ h1
        have s2 := IH _ _ h2
        have pw := pwd_and s1.ptd (s2.pwd _ _ _ rfl)
        exact ⟨pd_and s1.pd s2.pd, pw.ptd, (fun i z => nomatch z), (fun _ _ _ _ => pw)⟩
      · cases h
    · split at h
      · rename_i a' b' h1 h2
        cases h
        have s1 := IH _ _ h1
        have s2 := IH _ _ h2
        have pw := pwd_or s1.ptd (s2.pwd _ _ _ rfl)
        exact ⟨pd_or s1.pd s2.pd, pw.ptd, (fun i z => nomatch z), (fun _ _ _ _ => pw)⟩
      · cases h
    · split at h
      · rename_i c' a' b' h1 h2 h3
        cases h
        exact .bad (pd_ite (IH _ _ h1).ptd (IH _ _ h2).pd (IH _ _ h3).pd) (fun i z => nomatch z) (fun l => by rw [evT.eq_def]) (fun _ _ _ z => nomatch z)
      · cases h
    · rw [Option.map_eq_some_iff] at h
      obtain ⟨es', h1, rfl⟩ := h
      exact .bad (pd_tup (trL_ok IH h1).2.1) (fun i z => nomatch z) (fun l => by rw [evT.eq_def]) (fun _ _ _ z => nomatch z)
    · rw [Option.map_eq_some_iff] at h
      obtain ⟨es', h1, rfl⟩ := h
      exact .bad (pd_lst (trL_ok IH h1).2.1) (fun i z => nomatch z) (fun l => by rw [evT.eq_def]) (fun _ _ _ z => nomatch z)
    · rw [Option.map_eq_some_iff] at h
      obtain ⟨a', h1, rfl⟩ := h
      exact .bad (pd_sl00 (IH _ _ h1).pad) (fun i z => nomatch z) (fun l => by rw [evT.eq_def]) (fun _ _ _ z => nomatch z)
    · split at h
      · rename_i a' b' h1 h2
        cases h
        exact .bad (pd_sl10 (IH _ _ h1).pad (IH _ _ h2).pd) (fun i z => nomatch z) (fun l => by rw [evT.eq_def]) (fun _ _ _ z => nomatch z)
      · cases h
    · split at h
      · rename_i a' b' h1 h2
        cases h
        exact .bad (pd_sl01 (IH _ _ h1).pad (IH _ _ h2).pd) (fun i z => nomatch z) (fun l => by rw [evT.eq_def]) (fun _ _ _ z => nomatch z)
      · cases h
    · split at h
      · rename_i a' b' c' h1 h2 h3
        cases h
        exact .bad (pd_sl11 (IH _ _ h1).pad (IH _ _ h2).pd (IH _ _ h3).pd) (fun i z => nomatch z) (fun l => by rw [evT.eq_def]) (fun _ _ _ z => nomatch z)
      · cases h
    · split at h
      · rename_i a' b' h1 h2
        split at h
        · rename_i hp
          cases h
          exact .plain (pd_ix (IH _ _ h1).pad (IH _ _ h2).pad (plainIx_ok hp)) (fun i z => nomatch z) rfl (fun _ => rfl) (fun _ _ _ z => nomatch z)
        · cases h
      · cases h
    · -- f(..)
      split at h
      · rename_i fi hf
        split at h
        · rename_i hc
          simp only [Bool.and_eq_true] at hc
          split at h
          · rename_i sh es' ks' h1 h2 h3
            cases h
            have hm := List.mem_of_find?_eq_some h1
            have hq := List.find?_some h1
            simp only [Bool.and_eq_true, beq_iff_eq, decide_eq_true_eq] at hq
            obtain ⟨p1, _, p3, p4⟩ := trL_ok IH h2
            obtain ⟨q1, q2⟩ := trK_ok IH h3
            refine .plain (pd_call (G.fn _ _ hf) hm G.room G.tk (G.gl hc.1.1) (okName_d hc.1.2).1 p1 q1 p4 hc.2 hq.2.symm hq.1 p3 (by rw [q2, hq.2, kw_len hc.2])) (fun i z => nomatch z) rfl (fun _ => rfl) (fun _ _ _ z => nomatch z)
          · cases h
        · cases h
      · split at h
        · rename_i hc
          simp only [Bool.and_eq_true, Bool.not_eq_true'] at hc
          obtain ⟨⟨⟨hb, hk⟩, hn⟩, hnm⟩ := hc
          have hk' := List.isEmpty_iff.mp hk
          subst hk'
          split at h
          · rename_i hx
            have hx' := eq_of_beq hx
            subst hx'
            split at h
            · split at h
              · rename_i a' j h1 h2
                split at h
                · rename_i hh
                  simp only [Bool.and_eq_true] at hh
                  cases h
                  exact .plain (pd_ist G hb hh.1.1 h2 (IH _ _ h1).pad hh.1.2) (fun i z => nomatch z) rfl (fun _ => rfl) (fun _ _ _ z => nomatch z)
                · cases h
              · cases h
            · cases h
          · split at h
            · rename_i p es' h1 h2
              cases h
              obtain ⟨p1, _, p3, p4⟩ := trL_ok IH h2
              exact .plain (pd_blt G hb hn hnm h1 p1 p4) (fun i z => nomatch z) rfl (fun _ => rfl) (fun _ _ _ z => nomatch z)
            · cases h
        · cases h
    · cases h
end DL

set_option Elab.async false
set_option linter.all false
set_option maxRecDepth 100000
set_option maxHeartbeats 4000000
namespace DL
open PySem PySem.Spec PyProof.Rows L2

/-! ## small statements -/
def notComp : Expr → Bool
  | .ListComp .. | .SetComp .. | .DictComp .. => false
  | _ => true
theorem swapsWith_no {e : Expr} {t : Option Expr} {n : Nat} {env : PySem.Env} (h : notComp e = true) : swapsWith e t n env = pure false := by
  cases e <;> first | rfl | cases h
def isName : Expr → Bool
  | .Name .. => true
  | _ => false
section
variable {X : Cx} {W : WX} {xi : XI} {Γ : Gam} {pr : List Nat} {pos : Pos}
theorem psd_set {i : Nat} {x : Str} {px : Pos} {e : Expr} {e' : E} (hN : X.N.Nodup) (hi : X.N[i]? = some x) (hx : L2.Loc X.env.scope x) (hf : X.fn x = true ∨ X.env.scope.names.lookup x = some .local) (hp : i ∉ pr) (h : PD X W xi e (evX Γ e')) (hc : notComp e = true) :
    PSD X W xi pr (.Assign [.Name x px] e pos) (exS Γ (.set i e')) := by
  obtain ⟨t, ht, q⟩ := h.ex
  refine ⟨_, ps_set hN hi hx ht (swapsWith_no hc) hf, fun Xs σ H l M D r k => ?_⟩
  rw [exS.eq_def] at k
  refine q Xs σ H l M _ r (k.bind.imp fun s l1 M1 H1 st1 rl1 k1 v rv => ?_)
  dsimp only [Cs.cf] at k1 rl1
  split at k1
  · rename_i hl
    exact k1 _ M1 H1 Step.refl (rl1.set hl rv) fun j hj => List.getElem?_set_ne (fun z => hp (by rw [z]; exact hj))
  · exact k1.elim
/-- name = [..] where the stores are not exchanged -/
theorem psd_setC {i : Nat} {x : Str} {px : Pos} {e : Expr} {e' : E} (hN : X.N.Nodup) (hi : X.N[i]? = some x) (hx : L2.Loc X.env.scope x) (hf : X.fn x = true ∨ X.env.scope.names.lookup x = some .local) (hp : i ∉ pr) (h : PD X W xi e (evX Γ e')) (hs : swapsWith e (some (.Name x px)) pos.line X.env = pure false) :
    PSD X W xi pr (.Assign [.Name x px] e pos) (exS Γ (.set i e')) := by
  obtain ⟨t, ht, q⟩ := h.ex
  refine ⟨_, ps_set hN hi hx ht hs hf, fun Xs σ H l M D r k => ?_⟩
  rw [exS.eq_def] at k
  refine q Xs σ H l M _ r (k.bind.imp fun s l1 M1 H1 st1 rl1 k1 v rv => ?_)
  dsimp only [Cs.cf] at k1 rl1
  split at k1
  · rename_i hl
    exact k1 _ M1 H1 Step.refl (rl1.set hl rv) fun j hj => List.getElem?_set_ne (fun z => hp (by rw [z]; exact hj))
  · exact k1.elim
theorem sw_false {elt : Expr} {gs : List Comprehension} {scope : Scope} {lp px : Pos} {x : Str} {l : Nat} {env : PySem.Env} (h : (env.scope.names.lookup x == some .local && (px.line == lp.line) && !(scope.names.any fun (n, k) => n == x && (k == .local || k == .cell))) = false) :
    swapsWith (.ListComp elt gs scope lp) (some (.Name x px)) l env = pure false := by
  unfold swapsWith
  have e : (env.blockKind == .function && env.kindOf x == some .local && px.line == (Expr.ListComp elt gs scope lp).pos.line && !(scope.names.any fun (n, k) => n == x && (k == .local || k == .cell))) = false := by
    have e2 : env.kindOf x = env.scope.names.lookup x := rfl
    have e3 : (Expr.ListComp elt gs scope lp).pos.line = lp.line := rfl
    rw [e2, e3, Bool.and_assoc, Bool.and_assoc, ← Bool.and_assoc (env.scope.names.lookup x == some .local), h, Bool.and_false]
  show pure (env.blockKind == .function && env.kindOf x == some .local && px.line == (Expr.ListComp elt gs scope lp).pos.line && !(scope.names.any fun (n, k) => n == x && (k == .local || k == .cell))) = pure false
  rw [e]
/-- name = [..]: a comprehension on one line, the name a local -/
theorem psd_setLc {i : Nat} {x : Str} {px lp : Pos} {elt tg iter : Expr} {ifs : List Expr} {scope : Scope} {own : List (Str × Nat)} {c : E} (hc : X.calm = true) (hN : X.N.Nodup) (hk : X.env.scope.kind = .function) (hi : X.N[i]? = some x) (hx : X.env.scope.names.lookup x = some .local) (hp : i ∉ pr)
    (h : CompOk X W xi Γ elt tg iter ifs scope own c) (hl : (px.line == lp.line) = true) (ha : (scope.names.any fun (n, k) => n == x && (k == .local || k == .cell)) = false) :
    PSD X W xi pr (.Assign [.Name x px] (.ListComp elt [⟨tg, iter, ifs, 0⟩] scope lp) pos) (exS Γ (.set i c)) := by
  obtain ⟨wi, hwi, q⟩ := h.ex
  refine ⟨fun D σ H => σ.length = X.N.length → tAsg (tLc wi (wGt (blkF X scope) tg) (wTs (blkF X scope) ifs) (wE (blkF X scope) elt) (own.map (·.2))) (gName i) D σ H, ⟨fun pins s σ H D I hh =>
    (ps_setLc hc hN hi hx (sw_true hk hx hl ha) hwi h.ok (fun s H C cl fp => wG_pg (blkF X scope) tg ⟨s, H, C, cl, fp⟩) (fun s H C cl fp => wTs_pts (blkF X scope) ifs ⟨s, H, C, cl, fp⟩) (fun s H C cl fp => wE_pe (blkF X scope) elt ⟨s, H, C, cl, fp⟩) h.fold).run pins s σ H D I (hh I.len)⟩, fun Xs σ H l M D r k hlen => ?_⟩
  rw [exS.eq_def] at k
  refine q Xs σ H l M _ hlen r (k.bind.imp fun s l1 M1 H1 st1 rl1 k1 v rv => ?_)
  dsimp only [Cs.cf] at k1 rl1
  split at k1
  · rename_i hl
    exact k1 _ M1 H1 Step.refl (rl1.set hl rv) fun j hj => List.getElem?_set_ne (fun z => hp (by rw [z]; exact hj))
  · exact k1.elim
theorem swSole {tg e : Expr} {n : Nat} {env : PySem.Env} (h : notComp e = true) : swapsWithSole [tg] e n env = pure false := swapsWith_no h
def asgOk : Expr → Expr → Bool
  | .Tuple _ _ _, .Tuple _ _ _ => false
  | .Tuple _ _ _, e => notComp e
  | _, _ => false
theorem asgOk_ok {tg e : Expr} {env : PySem.Env} {n : Nat} (h : asgOk tg e = true) : swappedStores [tg] e env = pure none ∧ swapsWithSole [tg] e n env = pure false ∧ (assignEach [tg] env).map (·.2) = [assign tg env] := by
  cases tg <;> first | (exfalso; revert h; simp [asgOk]; done) | skip
  cases e <;> first | (exfalso; revert h; simp [asgOk, notComp]; done) | exact ⟨rfl, rfl, rfl⟩
theorem psd_asg {tg e : Expr} {t' : Tg} {e' : E} (hg : PGD X pr tg t') (h : PD X W xi e (evX Γ e')) (ho : asgOk tg e = true) : PSD X W xi pr (.Assign [tg] e pos) (exS Γ (.asg t' e')) := by
  obtain ⟨t, ht, q⟩ := h.ex
  obtain ⟨g, hg', qg⟩ := hg.ex
  obtain ⟨h1, h2, h3⟩ := asgOk_ok (env := X.env) (n := pos.line) ho
  refine ⟨_, ps_asg ht hg' h2 h1 h3, fun Xs σ H l M D r k => ?_⟩
  rw [exS.eq_def] at k
  refine q Xs σ H l M _ r (k.bind.imp fun s l1 M1 H1 st1 rl1 k1 v rv => ?_)
  dsimp only [Cs.cf] at k1 rl1 rv
  obtain ⟨M1', hm, rl1', rv'⟩ := RepR.frozen rl1 rv
  cases e1 : bindT t' s.d l1 with
  | none => rw [e1] at k1; exact k1.elim
  | some l2 =>
    rw [e1] at k1
    exact qg _ Xs σ H1 l1 l2 M1' v s.d _ rl1' rv' e1 fun σ2 r2 kp => k1 σ2 M1' H1 (Step.refl.less hm) r2 kp
/-- a, b = x, y -/
def notStarL (vs : List Expr) : Bool := vs.all notStar
theorem sw2 {x y : Str} {px py pt p2 : Pos} {kt k2 : Nat} {a b : Expr} {env : PySem.Env} (hb : env.blockKind = .function) (hx : env.kindOf x = some .local) (hy : env.kindOf y = some .local) (hl : (px.line == py.line) = true) (hxy : (x == y) = false) (hs : notStar a = true) (hs2 : notStar b = true)
    (hf : [a, b].all (foldedForSure 8) = false) (hc : [a, b].all (constantsAlone 8) = false) : swappedStores [.Tuple [.Name x px, .Name y py] kt pt] (.Tuple [a, b] k2 p2) env = pure (some [x, y]) := by
  have st1 : ∀ e : Expr, notStar e = true → (match e with | .Starred .. => true | _ => false) = false := fun e h => by
    cases e <;> first | rfl | cases h
  have hst : ([a, b].any fun | .Starred .. => true | _ => false) = false := by
    simp only [List.any_cons, List.any_nil, Bool.or_false]
    exact Bool.or_eq_false_iff.mpr ⟨st1 a hs, st1 b hs2⟩
  have hl' : py.line = px.line := (eq_of_beq hl).symm
  have hyx : (y == x) = false := by
    cases e : (y == x) with
    | false => rfl
    | true => rw [eq_of_beq e] at hxy; simp at hxy
  have hk : (env.kindOf x == some NameKind.local) = true := by rw [hx]; rfl
  have hk2 : (env.kindOf y == some NameKind.local) = true := by rw [hy]; rfl
  have hnm : List.filterMap (fun x_1 : Expr => match x_1 with
      | Expr.Name id pos => if (env.kindOf id == some NameKind.local && pos.line == (Option.map (fun x : Expr => x.pos.line) [Expr.Name x px, Expr.Name y py].head?).getD 0) = true then some id else none
      | x => none) [Expr.Name x px, Expr.Name y py] = [x, y] := by
    simp only [List.head?_cons, Option.map_some, Option.getD_some, Expr.pos, List.filterMap_cons, List.filterMap_nil, hk, hk2, hl', beq_self_eq_true, Bool.and_self, if_true]
  have hd : [x, y].eraseDups = [x, y] := by
    simp [List.eraseDups_cons, hyx]
  unfold swappedStores
  dsimp only
  rw [if_neg (by rw [hb]; exact Bool.false_ne_true)]
  refine (if_neg ?h1).trans ?_
  case h1 => exact fun h => Bool.false_ne_true (hst.symm.trans h)
  have key : ∀ l1 : List Str, l1 = [x, y] → (if (l1.length != [Expr.Name x px, Expr.Name y py].length || l1.eraseDups.length != l1.length) = true then (pure none : Sem (Option (List Str)))
      else if [a, b].all (foldedForSure 8) = true then pure none else if [a, b].all (constantsAlone 8) = true then do unsupported "assign.tuple-of-constant-expressions:order-of-the-stores"; pure (some l1) else pure (some l1)) = pure (some [x, y]) := fun l1 e => by
    subst e
    rw [hd, if_neg (by exact Bool.false_ne_true), hf, if_neg Bool.false_ne_true, hc, if_neg Bool.false_ne_true]
  exact key _ hnm
/-- a, b, c = x, y, z -/
theorem sw3 {x y z : Str} {px py pz pt p2 : Pos} {kt k2 : Nat} {a b c : Expr} {env : PySem.Env} (hb : env.blockKind = .function) (hx : env.kindOf x = some .local) (hy : env.kindOf y = some .local) (hz : env.kindOf z = some .local) (hl : (px.line == py.line) = true) (hl2 : (px.line == pz.line) = true)
    (hxy : (x == y) = false) (hxz : (x == z) = false) (hyz : (y == z) = false) (hs : [a, b, c].all notStar = true)
    (hf : [a, b, c].all (foldedForSure 8) = false) (hc : [a, b, c].all (constantsAlone 8) = false) : swappedStores [.Tuple [.Name x px, .Name y py, .Name z pz] kt pt] (.Tuple [a, b, c] k2 p2) env = pure (some [x, y, z]) := by
  have st1 : ∀ e : Expr, notStar e = true → (match e with | .Starred .. => true | _ => false) = false := fun e h => by
    cases e <;> first | rfl | cases h
  simp only [List.all_cons, List.all_nil, Bool.and_true, Bool.and_eq_true] at hs
  have hst : ([a, b, c].any fun | .Starred .. => true | _ => false) = false := by
    simp only [List.any_cons, List.any_nil, Bool.or_false]
    exact Bool.or_eq_false_iff.mpr ⟨st1 a hs.1, Bool.or_eq_false_iff.mpr ⟨st1 b hs.2.1, st1 c hs.2.2⟩⟩
  have hl' : py.line = px.line := (eq_of_beq hl).symm
  have hl2' : pz.line = px.line := (eq_of_beq hl2).symm
  have sy : ∀ {u v : Str}, (u == v) = false → (v == u) = false := fun {u v} h => by
    cases e : (v == u) with
    | false => rfl
    | true => rw [eq_of_beq e] at h; simp at h
  have hk : (env.kindOf x == some NameKind.local) = true := by rw [hx]; rfl
  have hk2 : (env.kindOf y == some NameKind.local) = true := by rw [hy]; rfl
  have hk3 : (env.kindOf z == some NameKind.local) = true := by rw [hz]; rfl
  have hnm : List.filterMap (fun x_1 : Expr => match x_1 with
      | Expr.Name id pos => if (env.kindOf id == some NameKind.local && pos.line == (Option.map (fun x : Expr => x.pos.line) [Expr.Name x px, Expr.Name y py, Expr.Name z pz].head?).getD 0) = true then some id else none
      | x => none) [Expr.Name x px, Expr.Name y py, Expr.Name z pz] = [x, y, z] := by
    simp only [List.head?_cons, Option.map_some, Option.getD_some, Expr.pos, List.filterMap_cons, List.filterMap_nil, hk, hk2, hk3, hl', hl2', beq_self_eq_true, Bool.and_self, if_true]
  have hd : [x, y, z].eraseDups = [x, y, z] := by
    simp [List.eraseDups_cons, sy hxy, sy hxz, sy hyz]
  unfold swappedStores
  dsimp only
  rw [if_neg (by rw [hb]; exact Bool.false_ne_true)]
  refine (if_neg ?h1).trans ?_
  case h1 => exact fun h => Bool.false_ne_true (hst.symm.trans h)
  have key : ∀ l1 : List Str, l1 = [x, y, z] → (if (l1.length != [Expr.Name x px, Expr.Name y py, Expr.Name z pz].length || l1.eraseDups.length != l1.length) = true then (pure none : Sem (Option (List Str)))
      else if [a, b, c].all (foldedForSure 8) = true then pure none else if [a, b, c].all (constantsAlone 8) = true then do unsupported "assign.tuple-of-constant-expressions:order-of-the-stores"; pure (some l1) else pure (some l1)) = pure (some [x, y, z]) := fun l1 e => by
    subst e
    rw [hd, if_neg (by exact Bool.false_ne_true), hf, if_neg Bool.false_ne_true, hc, if_neg Bool.false_ne_true]
  exact key _ hnm
/-- the stores stand in their order -/
def swNames (names : List (Str × NameKind)) (ts : List Expr) : List Str := ts.filterMap fun
    | .Name id pos => if names.lookup id == some .local && pos.line == (ts.head?.map (·.pos.line)).getD 0 then some id else none
    | _ => none
def swNoB (names : List (Str × NameKind)) (ts vs : List Expr) : Bool :=
  (!(ts.length == 2 || ts.length == 3) || vs.length != ts.length) || ((swNames names ts).length != ts.length || vs.all (foldedForSure 8))
theorem swNo {names : List (Str × NameKind)} {ts vs : List Expr} {pt p2 : Pos} {kt k2 : Nat} {env : PySem.Env} (hs : env.scope.names = names) (h : swNoB names ts vs = true) : swappedStores [.Tuple ts kt pt] (.Tuple vs k2 p2) env = pure none := by
  subst hs
  unfold swappedStores
  dsimp only
  unfold swNoB at h
  rw [Bool.or_eq_true, Bool.or_eq_true (_ != _)] at h
  rcases h with h | h | h
  · rw [if_pos (by rw [h]; rfl)]
  all_goals
    refine (ite_eq_left_iff.mpr fun _ => ?_)
    refine (ite_eq_left_iff.mpr fun _ => ?_)
  · refine if_pos ?_
    rw [Bool.or_eq_true]
    exact .inl h
  · refine (ite_eq_left_iff.mpr fun _ => ?_)
    exact if_pos h
def asgOk' (names : List (Str × NameKind)) : Expr → Expr → Bool
  | .Tuple ts _ _, .Tuple vs _ _ => swNoB names ts vs
  | tg, e => asgOk tg e
theorem asgOk'_ok {names : List (Str × NameKind)} {tg e : Expr} {env : PySem.Env} {n : Nat} (hs : env.scope.names = names) (h : asgOk' names tg e = true) : swappedStores [tg] e env = pure none ∧ swapsWithSole [tg] e n env = pure false ∧ (assignEach [tg] env).map (·.2) = [assign tg env] := by
  unfold asgOk' at h
  split at h
  · exact ⟨swNo hs h, rfl, rfl⟩
  · exact asgOk_ok h
theorem psd_asg' {names : List (Str × NameKind)} {tg e : Expr} {t' : Tg} {e' : E} (hs : X.env.scope.names = names) (hg : PGD X pr tg t') (h : PD X W xi e (evX Γ e')) (ho : asgOk' names tg e = true) : PSD X W xi pr (.Assign [tg] e pos) (exS Γ (.asg t' e')) := by
  obtain ⟨t, ht, q⟩ := h.ex
  obtain ⟨g, hg', qg⟩ := hg.ex
  obtain ⟨h1, h2, h3⟩ := asgOk'_ok (env := X.env) (n := pos.line) hs ho
  refine ⟨_, ps_asg ht hg' h2 h1 h3, fun Xs σ H l M D r k => ?_⟩
  rw [exS.eq_def] at k
  refine q Xs σ H l M _ r (k.bind.imp fun s l1 M1 H1 st1 rl1 k1 v rv => ?_)
  dsimp only [Cs.cf] at k1 rl1 rv
  obtain ⟨M1', hm, rl1', rv'⟩ := RepR.frozen rl1 rv
  cases e1 : bindT t' s.d l1 with
  | none => rw [e1] at k1; exact k1.elim
  | some l2 =>
    rw [e1] at k1
    exact qg _ Xs σ H1 l1 l2 M1' v s.d _ rl1' rv' e1 fun σ2 r2 kp => k1 σ2 M1' H1 (Step.refl.less hm) r2 kp
end
end DL

set_option Elab.async false
set_option linter.all false
set_option maxRecDepth 100000
set_option maxHeartbeats 4000000
namespace DL
open PySem PySem.Spec PyProof.Rows L2

section
variable {X : Cx} {W : WX} {xi : XI} {Γ : Gam} {pr : List Nat} {pos : Pos}
/-! ### values kept side by side -/
/-- values, own lists apart from one another -/
def RepSs (K : PySem.W.Frag) (X M : Ad) (σ : L2.St) (l : Loc) (H : Hp) : List V → List Sl → Prop
  | [], [] => True
  | v :: vs, s :: ss => RepR K X M σ l H v s ∧ (∀ a, Ows H v s a → ¬ Owt H vs ss a) ∧ RepSs K X M σ l H vs ss
  | _, _ => False
structure PLS (X : Cx) (W : WX) (xi : XI) (es : List Expr) (d : Loc → R (List Sl × Loc)) : Prop where
  ex : ∃ t : TA, PA X es t ∧ ∀ (Xs : Ad) (σ : L2.St) (H : Hp) (l : Loc) (M : Ad) (Q : List V → Hp → Prop), RepLoc xi.tb X.K Xs M σ H l →
    Po ⟨X.K, Xs, W, xi, σ⟩ M H (fun ss l' M' H' => ∀ vs, RepSs X.K Xs M' σ l' H' vs ss → Q vs H') (d l) → t σ H Q
theorem pls_nil : PLS X W xi [] (evSs Γ []) := by
  refine ⟨tNil, pa_nil, fun Xs σ H l M Q r g => ?_⟩
  rw [evSs.eq_def] at g
  exact g M H Step.refl r [] trivial
theorem Owt.cons {H : Hp} {vs : List V} {ss : List Sl} {v : V} {s : Sl} {a : Addr} (h : Owt H (v :: vs) (s :: ss) a) : Ows H v s a ∨ Owt H vs ss a := by
  obtain ⟨j, t, w, e1, e2, o⟩ := h
  cases j with
  | zero => simp at e1 e2; subst e1; subst e2; exact .inl o
  | succ j => exact .inr ⟨j, t, w, by simpa using e1, by simpa using e2, o⟩
theorem RepSs.owt_M {K : PySem.W.Frag} {Xs M : Ad} {σ : L2.St} {l : Loc} {H : Hp} {a : Addr} : ∀ {vs : List V} {ss : List Sl}, RepSs K Xs M σ l H vs ss → Owt H vs ss a → M a
  | [], [], _, o => by obtain ⟨j, t, w, e1, _⟩ := o; simp at e1
  | v :: vs, s :: ss, h, o => by
    rcases o.cons with o | o
    · exact (h.1.toS.ows_M o).1
    · exact RepSs.owt_M h.2.2 o
  | [], _ :: _, h, _ => h.elim
  | _ :: _, [], h, _ => h.elim
theorem RepSs.give {K : PySem.W.Frag} {Xs M P : Ad} {σ : L2.St} {l : Loc} {H : Hp} : ∀ {vs : List V} {ss : List Sl}, RepSs K (Wp Xs P) M σ l H vs ss → RepSs K Xs (fun b => M b ∨ P b) σ l H vs ss
  | [], [], _ => trivial
  | v :: vs, s :: ss, h => ⟨RepR.mk h.1.toS.giveP fun a o => h.1.sep o, h.2.1, RepSs.give h.2.2⟩
  | [], _ :: _, h => h.elim
  | _ :: _, [], h => h.elim
theorem pls_cons {e : Expr} {es : List Expr} {e' : E} {es' : List E} (h1 : PD X W xi e (evX Γ e')) (h2 : PLS X W xi es (evSs Γ es')) (hs : starEach (e :: es) X.env = (false, eval e X.env) :: starEach es X.env) : PLS X W xi (e :: es) (evSs Γ (e' :: es')) := by
  obtain ⟨t, ht, q⟩ := h1.ex
  obtain ⟨u, hu, p⟩ := h2.ex
  refine ⟨tCons t u, pa_cons ht hu hs, fun Xs σ H l M Q r g => ?_⟩
  have e0 : evSs Γ (e' :: es') l = (evX Γ e' l).bind fun r => (evSs Γ es' r.2).bind fun r2 => .ok (r.1 :: r2.1, r2.2) := by rw [evSs.eq_def]
  rw [e0] at g
  refine q Xs σ H l M _ r (g.bind.imp fun s l1 M1 H1 st rl g1 v rv => ?_)
  have rh := rl.hideP (P := Ows H1 v s) (fun a o => (rv.toS.ows_M o).1) (fun a o => rv.sep o)
  dsimp only at g1
  refine p _ σ H1 l1 _ _ rh ?_
  -- the rest, with what v owns hidden
  refine (Po.hide (fun a o => (rv.toS.ows_M o).1) (fun a o x => rl.dis a x (rv.toS.ows_M o).1) g1.bind).imp fun as l2 M2 H2 st2 rl2 g2 vs rvs => ?_
  obtain ⟨rs, ow⟩ := rv.toS.held st2
  refine g2 _ H2 Step.refl (rl2.giveP fun a o x => rl.dis a x (rv.toS.ows_M o).1) (v :: vs) ⟨RepR.mk rs fun a o z => ?_, fun a o z => ?_, rvs.give⟩
  · exact rl2.dis a (.inr ((ow a).mp o)) (rl2.owd_M z).1
  · exact rl2.dis a (.inr ((ow a).mp o)) (rvs.owt_M z)
theorem Owd.set {l : Loc} {σ : L2.St} {H : Hp} {i : Nat} {s : Sl} {v : V} {a : Addr} (o : Owd (l.set i s) (σ.set i (some v)) H a) : Ows H v s a ∨ Owd l σ H a := by
  obtain ⟨j, t, w, e1, e2, o⟩ := o
  by_cases hj : j = i
  · subst hj
    rw [List.getElem?_set] at e1 e2
    simp only [if_true] at e1 e2
    split at e1 <;> cases e1
    split at e2 <;> cases e2
    exact .inl o
  · rw [List.getElem?_set_ne (Ne.symm hj)] at e1 e2
    exact .inr ⟨j, t, w, e1, e2, o⟩
theorem setAll_ok {tb : Ad} {K : PySem.W.Frag} {Xs M : Ad} {H : Hp} : ∀ {is : List Nat} {vs : List V} {ss : List Sl} {σ : L2.St} {l l2 : Loc}, RepLoc tb K Xs M σ H l → RepSs K Xs M σ l H vs ss → setAll l is ss = some l2 → RepLoc tb K Xs M ((is.zip vs).foldl (fun σ p => σ.set p.1 (some p.2)) σ) H l2
  | [], [], [], σ, l, l2, r, _, e => by unfold setAll at e; cases e; exact r
  | i :: is, v :: vs, s :: ss, σ, l, l2, r, h, e => by
    unfold setAll at e
    split at e
    · rename_i hi
      have r1 := r.set hi h.1
      refine setAll_ok (is := is) (vs := vs) (ss := ss) r1 ?_ e
      -- what is left stands for the same
      have key : ∀ {vs : List V} {ss : List Sl}, RepSs K Xs M σ l H vs ss → (∀ a, Ows H v s a → ¬ Owt H vs ss a) → RepSs K Xs M (σ.set i (some v)) (l.set i s) H vs ss := by
        intro vs ss
        induction vs generalizing ss with
        | nil => intro h q; cases ss with
          | nil => trivial
          | cons _ _ => exact h.elim
        | cons w vs ih =>
          intro h q
          cases ss with
          | nil => exact h.elim
          | cons z ss =>
            refine ⟨RepR.mk h.1.toS fun a o k => ?_, h.2.1, ih h.2.2 fun a o k => ?_⟩
            · rcases k.set with k | k
              · exact q a k ⟨0, z, w, rfl, rfl, o⟩
              · exact h.1.sep o k
            · obtain ⟨j, t, x, e1, e2, e3⟩ := k
              exact q a o ⟨j + 1, t, x, by simpa using e1, by simpa using e2, e3⟩
      exact key h.2.2 h.2.1
    · cases e
  | [], _, _ :: _, _, _, _, _, _, e => by unfold setAll at e; cases e
  | _ :: _, _, [], _, _, _, _, _, e => by unfold setAll at e; cases e
  | [], _ :: _, [], _, _, _, _, h, _ => h.elim
  | _ :: _, [], _ :: _, _, _, _, _, h, _ => h.elim
theorem RepSs.length {K : PySem.W.Frag} {Xs M : Ad} {σ : L2.St} {l : Loc} {H : Hp} : ∀ {vs : List V} {ss : List Sl}, RepSs K Xs M σ l H vs ss → vs.length = ss.length
  | [], [], _ => rfl
  | v :: vs, s :: ss, h => by simp [RepSs.length h.2.2]
  | [], _ :: _, h => h.elim
  | _ :: _, [], h => h.elim
theorem setAll_length : ∀ {is : List Nat} {ss : List Sl} {l l2 : Loc}, setAll l is ss = some l2 → is.length = ss.length
  | [], [], _, _, _ => rfl
  | i :: is, s :: ss, l, l2, e => by
    unfold setAll at e
    split at e
    · simp [setAll_length e]
    · cases e
  | [], _ :: _, _, _, e => by unfold setAll at e; cases e
  | _ :: _, [], _, _, e => by unfold setAll at e; cases e
/-- a, b = e, f -/
theorem psd_par {i j : Nat} {x y : Str} {a b : Expr} {as' : List E} {px py pt pt2 : Pos} {kt k2 : Nat} (hc : X.calm = true) (hN : X.N.Nodup) (hi : X.N[i]? = some x) (hj : X.N[j]? = some y) (hij : i ≠ j)
    (hx : X.env.scope.names.lookup x = some .local) (hy : X.env.scope.names.lookup y = some .local) (h : PLS X W xi [a, b] (evSs Γ as')) (hpi : i ∉ pr) (hpj : j ∉ pr)
    (hw : swappedStores [.Tuple [.Name x px, .Name y py] kt pt] (.Tuple [a, b] k2 pt2) X.env = pure (some [x, y])) :
    PSD X W xi pr (.Assign [.Tuple [.Name x px, .Name y py] kt pt] (.Tuple [a, b] k2 pt2) pos) (exS Γ (.par [i, j] as')) := by
  obtain ⟨t, ht, q⟩ := h.ex
  refine ⟨_, ps_par hc hN hi hj hij hx hy ht hw rfl, fun Xs σ H l M D r k => ?_⟩
  rw [exS.eq_def] at k
  refine q Xs σ H l M _ r (k.bind.imp fun ds l1 M1 H1 st1 rl1 k1 vs rv => ?_)
  dsimp only [Cs.cf] at k1 rl1
  cases e1 : setAll l1 [i, j] ds with
  | none => rw [e1] at k1; exact k1.elim
  | some l2 =>
    rw [e1] at k1
    have hl : vs.length = 2 := by rw [rv.length, ← setAll_length e1]; rfl
    match vs, hl with
    | [v, w], _ =>
      have r2 := setAll_ok rl1 rv e1
      exact ⟨v, w, rfl, k1 _ M1 H1 Step.refl r2 fun m hm => by
        show ((σ.set i (some v)).set j (some w))[m]? = σ[m]?
        rw [List.getElem?_set_ne (fun z => hpj (by rw [z]; exact hm)), List.getElem?_set_ne (fun z => hpi (by rw [z]; exact hm))]⟩
/-- a, b, c = e, f, g -/
theorem psd_par3 {i j m : Nat} {x y z : Str} {a b c : Expr} {as' : List E} {px py pz pt pt2 : Pos} {kt k2 : Nat} (hc : X.calm = true) (hN : X.N.Nodup) (hi : X.N[i]? = some x) (hj : X.N[j]? = some y) (hm : X.N[m]? = some z) (hij : i ≠ j) (him : i ≠ m) (hjm : j ≠ m)
    (hx : X.env.scope.names.lookup x = some .local) (hy : X.env.scope.names.lookup y = some .local) (hz : X.env.scope.names.lookup z = some .local) (h : PLS X W xi [a, b, c] (evSs Γ as')) (hpi : i ∉ pr) (hpj : j ∉ pr) (hpm : m ∉ pr)
    (hw : swappedStores [.Tuple [.Name x px, .Name y py, .Name z pz] kt pt] (.Tuple [a, b, c] k2 pt2) X.env = pure (some [x, y, z])) :
    PSD X W xi pr (.Assign [.Tuple [.Name x px, .Name y py, .Name z pz] kt pt] (.Tuple [a, b, c] k2 pt2) pos) (exS Γ (.par [i, j, m] as')) := by
  obtain ⟨t, ht, q⟩ := h.ex
  refine ⟨_, ps_par3 hc hN hi hj hm hij him hjm hx hy hz ht hw rfl, fun Xs σ H l M D r k => ?_⟩
  rw [exS.eq_def] at k
  refine q Xs σ H l M _ r (k.bind.imp fun ds l1 M1 H1 st1 rl1 k1 vs rv => ?_)
  dsimp only [Cs.cf] at k1 rl1
  cases e1 : setAll l1 [i, j, m] ds with
  | none => rw [e1] at k1; exact k1.elim
  | some l2 =>
    rw [e1] at k1
    have hl : vs.length = 3 := by rw [rv.length, ← setAll_length e1]; rfl
    match vs, hl with
    | [v, w, u], _ =>
      have r2 := setAll_ok rl1 rv e1
      exact ⟨v, w, u, rfl, k1 _ M1 H1 Step.refl r2 fun n hn => by
        show (((σ.set i (some v)).set j (some w)).set m (some u))[n]? = σ[n]?
        rw [List.getElem?_set_ne (fun z => hpm (by rw [z]; exact hn)), List.getElem?_set_ne (fun z => hpj (by rw [z]; exact hn)), List.getElem?_set_ne (fun z => hpi (by rw [z]; exact hn))]⟩
/-- op=, ints alone -/
def RA (p : Prim) : R2 := fun x y H Q => ∃ i j z, x = .int i ∧ y = .int j ∧ augD p (.int i) (.int j) = some z ∧ Q (.int z) H
theorem augD_int {p : Prim} {d e : D} {z : Int} (h : augD p d e = some z) : ∃ i j, d = .int i ∧ e = .int j := by
  unfold augD at h
  split at h <;> first | exact ⟨_, _, rfl, rfl⟩ | cases h
def augP : Operator → Option Prim
  | .Add => some .add | .Sub => some .sub | .Mult => some .mul | _ => none
theorem augP_ok {op : Operator} {p : Prim} (h : augP op = some p) : PIp X op (RA p) := by
  intro pins s σ H x y v u Q I rx ry h'
  obtain ⟨i, j, z, e1, e2, e3, q⟩ := h'
  cases op <;> cases h
  · unfold augD at e3; cases e3
    exact iop_add pins s σ H x y v u Q I rx ry ⟨i, j, e1, e2, q⟩
  · unfold augD at e3; cases e3
    exact iop_sub pins s σ H x y v u Q I rx ry ⟨i, j, e1, e2, q⟩
  · unfold augD at e3
    dsimp only at e3
    split at e3
    · rename_i hc
      cases e3
      have hc' : CMul i j := by
        simp only [Bool.or_eq_true, decide_eq_true_eq] at hc
        exact hc
      exact iop_mul pins s σ H x y v u Q I rx ry ⟨i, j, e1, e2, hc', q⟩
    · cases e3
theorem res_at {K : PySem.W.Frag} {Xs M : Ad} {σ : L2.St} {H : Hp} {l : Loc} {i : Nat} {d : D} (r : RepLoc tb K Xs M σ H l) (e : res l (.pos i) = some d) : ∃ v, σ[i]? = some (some v) ∧ Pk K (Fb Xs M) H v d := by
  have h1 : ∃ v, σ[i]? = some (some v) := by
    rw [res_pos] at e
    split at e
    · rename_i _ e2
      obtain ⟨w, h1, _⟩ := r.val i _ e2
      exact ⟨w, h1⟩
    · rename_i _ e2
      obtain ⟨a, vs, h1, _⟩ := r.own i _ e2
      exact ⟨_, h1⟩
    · cases e
  obtain ⟨v, h1⟩ := h1
  exact ⟨v, h1, RepA.pk (C := ⟨K, Xs, fun _ _ _ _ => True, ⟨fun _ _ _ _ => True, tb⟩, σ⟩) (a := .pos i) r h1 e⟩
theorem psd_aug {i : Nat} {x : Str} {px : Pos} {e : Expr} {e' : E} {op : Operator} {p : Prim} (hN : X.N.Nodup) (hi : X.N[i]? = some x) (hx : L2.Loc X.env.scope x) (hf : X.fn x = true ∨ X.env.scope.names.lookup x = some .local) (hp : i ∉ pr) (h : PD X W xi e (evX Γ e')) (ho : augP op = some p) :
    PSD X W xi pr (.AugAssign (.Name x px) op e pos) (exS Γ (.aug i p e')) := by
  obtain ⟨t, ht, q⟩ := h.ex
  refine ⟨_, ps_aug hN hi hx ht (augP_ok ho) hf, fun Xs σ H l M D r k => ?_⟩
  rw [exS.eq_def] at k
  dsimp only at k
  cases e0 : res l (.pos i) with
  | none => rw [e0] at k; exact k.elim
  | some d0 =>
    rw [e0] at k
    obtain ⟨v0, h0, _⟩ := res_at r e0
    refine ⟨v0, h0, q Xs σ H l M _ r (PoS.bind k |>.imp fun s l1 M1 H1 st1 rl1 k1 v rv => ?_)⟩
    dsimp only [Cs.cf] at k1 rl1 rv
    cases e1 : res l1 (.pos i) with
    | none => rw [e1] at k1; exact k1.elim
    | some d =>
      rw [e1] at k1
      obtain ⟨v1, h1, p1⟩ := res_at rl1 e1
      rw [h0] at h1
      have : v1 = v0 := by simpa using h1.symm
      subst this
      dsimp only at k1
      cases e2 : augD p d s.d with
      | none => rw [e2] at k1; exact k1.elim
      | some z =>
        rw [e2] at k1
        obtain ⟨a, b, rfl, eb⟩ := augD_int e2
        have p2 := RepR.pkd rv eb
        rw [eb] at e2
        refine ⟨a, b, z, p1.int', p2.int', e2, ?_⟩
        dsimp only at k1
        split at k1
        · rename_i hl
          exact k1 _ M1 H1 Step.refl (rl1.set (s := .val (.int z)) hl (RepR.ofVal (Rep.int _))) fun j hj => List.getElem?_set_ne (fun z => hp (by rw [z]; exact hj))
        · exact k1.elim
theorem subAssign_ok {o i : Expr} {pos : Pos} {env : PySem.Env} (h : plainIx i = true) : ∀ v, assign (.Subscript o i pos) env v = (do
      let ov ← holding [v] (eval o env)
      let iv ← holding [v, ov] (eval i env)
      standAt pos
      holding [v, ov, iv] (setItem ov iv v)
      release [v, ov, iv] []) := by
  intro v
  cases i <;> first | rfl | cases h
/-- x[k] = e -/
theorem psd_setix {i : Nat} {x : Str} {px ps : Pos} {kx e : Expr} {k' e' : E} (hv : PE X (.Name x px) (tVar i)) (hk : PD X W xi kx (evX Γ k')) (he : PD X W xi e (evX Γ e')) (hc : notComp e = true) (hpl : plainIx kx = true) :
    PSD X W xi pr (.Assign [.Subscript (.Name x px) kx ps] e pos) (exS Γ (.setix i k' e')) := by
  obtain ⟨t, ht, q⟩ := he.ex
  obtain ⟨u, hu, o⟩ := hk.ex
  have hsw : swapsWithSole [.Subscript (.Name x px) kx ps] e pos.line X.env = pure false := swSole hc
  have hss : swappedStores [.Subscript (.Name x px) kx ps] e X.env = pure none := by cases e <;> rfl
  refine ⟨_, ps_asg ht (pg_sub hv hu set_list (subAssign_ok hpl)) hsw hss rfl, fun Xs σ H l M D r k => ?_⟩
  rw [exS.eq_def] at k
  refine q Xs σ H l M _ r (k.bind.imp fun s l1 M1 H1 st1 rl1 k1 v rv => ?_)
  dsimp only [Cs.cf] at k1 rl1 rv
  obtain ⟨M1', hm, rl1', rv'⟩ := RepR.frozen rl1 rv
  have k2 := k1.shift (Step.refl.less hm) Keep.refl
  cases e1 : ownAt l1 i with
  | none => rw [e1] at k2; exact k2.elim
  | some ds0 =>
    rw [e1] at k2
    obtain ⟨a, vs, g1, g2, g3, g4⟩ := rl1'.own i _ (ownAt_some e1)
    refine ⟨.ref a, g1, o Xs σ H1 l1 M1' _ rl1' (PoS.bind k2 |>.imp fun s2 l2 M2 H2 st2 rl2 k3 w rw2 => ?_)⟩
    dsimp only [Cs.cf] at k3 rl2 rw2
    cases e2 : ownAt l2 i with
    | none => rw [e2] at k3; exact k3.elim
    | some ds =>
      rw [e2] at k3
      cases e3 : s2.d with
      | int j =>
        rw [e3] at k3
        dsimp only at k3
        cases e4 : ixN ds.length j with
        | none => rw [e4] at k3; exact k3.elim
        | some m =>
          rw [e4] at k3
          have hw : w = .int j := by
            exact (RepR.pkd rw2 e3).int'
          subst hw
          have ow := ownAt_some e2
          obtain ⟨b, ws, q1, q2, q3, q4⟩ := rl2.own i _ ow
          rw [g1] at q1
          have : a = b := by simpa using q1
          subst this
          have rv2 : Rep X.K (Fb Xs M2) H2 v s.d := rv'.step st2
          obtain ⟨st3, rl3⟩ := rl2.put ow g1 (q4.set m rv2)
          exact ⟨a, ws, j, m, rfl, rfl, q3, by rw [q4.length]; exact e4, k3 σ M2 _ st3 rl3 Keep.refl⟩
      | _ => rw [e3] at k3; exact k3.elim
/-- x[k], a list, by values -/
def RGet (K : PySem.W.Frag) : V → V → Hp → VK → Prop := fun x y H Q => ∃ p xs i v, x = .ref p ∧ y = .int i ∧ SqL K H p xs ∧ atI xs i = some v ∧ Q v H
theorem get_list : PGet X (RGet X.K) := by
  intro pins s σ H o i ov iv Q I ro ri h
  obtain ⟨p, xs, j, z, rfl, rfl, hq, he, q⟩ := h
  cases ro
  obtain ⟨t, rfl⟩ := ri
  obtain ⟨its, r, pl, hz⟩ := I.list hq
  obtain ⟨m, h1, h2, h3, h4, h5⟩ := atI_get he
  obtain ⟨w, ew, rw'⟩ := r.get h2
  have hl := r.length
  have hn := line63
  have fin : EP X pins σ Q w s := ⟨z, H, I, rw', q⟩
  by_cases h0 : 0 ≤ j
  · have hj : j.toNat = m := by
      rw [seqIndex_of h0 h5] at h1
      exact Option.some.inj h1
    exact wpAny_getItem_list pl.isList h0 (by omega) (by rw [hj]; simpa using ew) fin
  · have hj : (j + (its.toArray.size : Int)).toNat = m := by
      rw [seqIndex_neg (by omega) h4] at h1
      rw [List.size_toArray, ← hl]
      exact Option.some.inj h1
    exact wpAny_getItem_list_neg pl.isList (by omega) (by rw [List.size_toArray] <;> omega) (by omega) (by rw [hj]; simpa using ew) fin
theorem augStore_ok {i : Expr} (h : plainIx i = true) : ∀ ov iv new, augStore i ov iv new = (do holding [new, ov, iv] (setItem ov iv new); release [new, ov, iv] []; pure .next) := by
  intro ov iv new
  cases i <;> first | rfl | cases h
/-- x[k] op= e -/
theorem psd_augix {i : Nat} {x : Str} {px ps : Pos} {kx e : Expr} {k' e' : E} {op : Operator} {p : Prim} (hv : PE X (.Name x px) (tVar i)) (hk : PD X W xi kx (evX Γ k')) (he : PD X W xi e (evX Γ e')) (hpl : plainIx kx = true) (ho : augP op = some p) :
    PSD X W xi pr (.AugAssign (.Subscript (.Name x px) kx ps) op e pos) (exS Γ (.augix i k' p e')) := by
  obtain ⟨t, ht, q⟩ := he.ex
  obtain ⟨u, hu, o⟩ := hk.ex
  refine ⟨_, ps_augS hv hu get_list ht (augP_ok ho) set_list (augStore_ok hpl), fun Xs σ H l M D r k => ?_⟩
  rw [exS.eq_def] at k
  dsimp only at k
  cases e0 : ownAt l i with
  | none => rw [e0] at k; exact k.elim
  | some ds0 =>
    rw [e0] at k
    obtain ⟨a, vs, g1, g2, g3, g4⟩ := r.own i _ (ownAt_some e0)
    refine ⟨.ref a, g1, o Xs σ H l M _ r (PoS.bind k |>.imp fun s l1 M1 H1 st1 rl1 k1 w rw1 => ?_)⟩
    dsimp only [Cs.cf] at k1 rl1 rw1
    cases e1 : ownAt l1 i with
    | none => rw [e1] at k1; exact k1.elim
    | some ds =>
      rw [e1] at k1
      cases e3 : s.d with
      | int j =>
        rw [e3] at k1
        dsimp only at k1
        cases e4 : atI ds j with
        | none => rw [e4] at k1; exact k1.elim
        | some d =>
          rw [e4] at k1
          have hw : w = .int j := by
            exact (RepR.pkd rw1 e3).int'
          subst hw
          obtain ⟨b, ws, q1, q2, q3, q4⟩ := rl1.own i _ (ownAt_some e1)
          rw [g1] at q1
          have : a = b := by simpa using q1
          subst this
          obtain ⟨z, z1, z2⟩ := atI_map q4 e4
          -- drop what the index may have made its own
          refine ⟨a, ws, j, z, rfl, rfl, .inl (.inl q3), z1, q Xs σ H1 l1 M1 _ rl1 (PoS.bind k1 |>.imp fun s2 l2 M2 H2 st2 rl2 k2 y ry => ?_)⟩
          dsimp only [Cs.cf] at k2 rl2 ry
          cases e5 : ownAt l2 i with
          | none => rw [e5] at k2; exact k2.elim
          | some ds1 =>
            rw [e5] at k2
            cases e6 : augD p d s2.d with
            | none => rw [e6] at k2; exact k2.elim
            | some n =>
              rw [e6] at k2
              dsimp only at k2
              cases e7 : ixN ds1.length j with
              | none => rw [e7] at k2; exact k2.elim
              | some m =>
                rw [e7] at k2
                obtain ⟨c1, c2, rfl, eb⟩ := augD_int e6
                have p2 := RepR.pkd ry eb
                rw [eb] at e6
                refine ⟨c1, c2, n, by simpa [Rep] using z2, p2.int', e6, ?_⟩
                have ow := ownAt_some e5
                obtain ⟨b, us, t1, t2, t3, t4⟩ := rl2.own i _ ow
                rw [g1] at t1
                have : a = b := by simpa using t1
                subst this
                obtain ⟨st3, rl3⟩ := rl2.put ow g1 (t4.set m (Rep.int n))
                exact ⟨a, us, j, m, rfl, rfl, t3, by rw [t4.length]; exact e7, k2 σ M2 _ st3 rl3 Keep.refl⟩
      | _ => rw [e3] at k1; exact k1.elim
/-- x.append(e) -/
theorem psd_app {i : Nat} {x : Str} {px pa pc : Pos} {e : Expr} {e' : E} (hv : PE X (.Name x px) (tVar i)) (he : PD X W xi e (evX Γ e')) (hs : notStar e = true) (hl : (pa.endLine == pc.line) = true) :
    PSD X W xi pr (.Expr (.Call (.Attribute (.Name x px) "append" pa) [e] [] pc) pos) (exS Γ (.app i e')) := by
  obtain ⟨t, ht, q⟩ := he.ex
  have se := starEach_cons (es := []) (env := X.env) hs
  have hpa : PA X [e] (tCons t tNil) := pa_cons ht pa_nil se
  refine ⟨_, ps_expr (pe_bm PySem.F.plainAttrs_list PySem.F.slot_list_append PySem.F.type_list_append mt_append hv hpa rfl (by rw [se]; rfl) hl se rfl) rfl, fun Xs σ H l M D r k => ?_⟩
  rw [exS.eq_def] at k
  dsimp only at k
  cases e0 : ownAt l i with
  | none => rw [e0] at k; exact k.elim
  | some ds0 =>
    rw [e0] at k
    obtain ⟨a, vs, g1, g2, g3, g4⟩ := r.own i _ (ownAt_some e0)
    refine ⟨.ref a, g1, .inl ⟨rfl, vs, .inl (.inl g3)⟩, q Xs σ H l M _ r (PoS.bind k |>.imp fun s l1 M1 H1 st1 rl1 k1 v rv => ?_)⟩
    dsimp only [Cs.cf] at k1 rl1 rv
    obtain ⟨M1', hm, rl1', rv'⟩ := RepR.frozen rl1 rv
    have k2 := k1.shift (Step.refl.less hm) Keep.refl
    cases e1 : ownAt l1 i with
    | none => rw [e1] at k2; exact k2.elim
    | some ds =>
      rw [e1] at k2
      dsimp only at k2
      split at k2
      · rename_i hz
        have ow := ownAt_some e1
        obtain ⟨b, ws, q1, q2, q3, q4⟩ := rl1'.own i _ ow
        rw [g1] at q1
        have : a = b := by simpa using q1
        subst this
        obtain ⟨st3, rl3⟩ := rl1'.put ow g1 (q4.append (RepL.cons rv' RepL.nil))
        exact ⟨a, ws, v, rfl, rfl, q3, by rw [q4.length, nat_sl]; exact hz, k2 σ M1' _ st3 rl3 Keep.refl⟩
      · exact k2.elim
theorem psd_ex {e : Expr} {e' : E} (h : PD X W xi e (evX Γ e')) (hc : notComp e = true) : PSD X W xi pr (.Expr e pos) (exS Γ (.ex e')) := by
  obtain ⟨t, ht, q⟩ := h.ex
  refine ⟨_, ps_expr ht (swapsWith_no hc), fun Xs σ H l M D r k => ?_⟩
  rw [exS.eq_def] at k
  exact q Xs σ H l M _ r (k.bind.imp fun s l1 M1 H1 st1 rl1 k1 v rv => k1 σ M1 H1 Step.refl rl1 Keep.refl)
theorem psd_ite {c : Expr} {a b : List Stmt} {c' : E} {a' b' : List S} (hc : PTD X W xi c (evT Γ c')) (ha : PBD X W xi pr a (exB Γ a')) (hb : PBD X W xi pr b (exB Γ b')) : PSD X W xi pr (.If c a b pos) (exS Γ (.ite c' a' b')) := by
  obtain ⟨t, ht, q⟩ := hc.ex
  obtain ⟨u, hu, o⟩ := ha.ex
  obtain ⟨w, hw, p⟩ := hb.ex
  refine ⟨_, ps_if ht hu hw, fun Xs σ H l M D r k => ?_⟩
  rw [exS.eq_def] at k
  refine q Xs σ H l M _ r (k.bind.imp fun z l1 M1 H1 st1 rl1 k1 => ?_)
  dsimp only [Cs.cf] at k1 rl1
  cases z with
  | true => exact o Xs σ H1 l1 M1 D rl1 k1
  | false => exact p Xs σ H1 l1 M1 D rl1 k1
theorem psd_ret {e : Expr} {e' : E} (h : PD X W xi e (evX Γ e')) : PSD X W xi pr (.Return (some e) pos) (exS Γ (.ret e')) := by
  obtain ⟨t, ht, q⟩ := h.ex
  refine ⟨_, ps_ret ht, fun Xs σ H l M D r k => ?_⟩
  rw [exS.eq_def] at k
  exact q Xs σ H l M _ r (k.bind.imp fun s l1 M1 H1 st1 rl1 k1 v rv => k1 v σ M1 H1 Step.refl rl1 Keep.refl rv)
theorem psd_retv {e : Expr} {i : Nat} (h : PE X e (tVar i)) : PSD X W xi pr (.Return (some e) pos) (exS Γ (.retv i)) := by
  refine ⟨_, ps_ret h, fun Xs σ H l M D r k => ?_⟩
  rw [exS.eq_def] at k
  dsimp only at k
  cases e1 : l[i]? with
  | none => rw [e1] at k; exact k.elim
  | some s =>
    rw [e1] at k
    cases s with
    | un => exact k.elim
    | val d =>
      obtain ⟨v, h1, h2⟩ := r.val i d e1
      exact ⟨v, h1, k v σ M H Step.refl r Keep.refl h2⟩
    | own ds =>
      obtain ⟨v, h1, r1, h2⟩ := r.take e1 (fun z => by cases z)
      exact ⟨v, h1, k _ σ M H Step.refl r1 Keep.refl h2⟩
    | nst cs =>
      obtain ⟨v, h1, r1, h2⟩ := r.take e1 (fun z => by cases z)
      exact ⟨v, h1, k _ σ M H Step.refl r1 Keep.refl h2⟩
theorem psd_brk : PSD X W xi pr (.Break pos) (exS Γ .brk) := ⟨_, ps_break, fun Xs σ H l M D r k => by
  rw [exS.eq_def] at k
  exact k σ M H Step.refl r Keep.refl⟩
theorem psd_cnt : PSD X W xi pr (.Continue pos) (exS Γ .cnt) := ⟨_, ps_continue, fun Xs σ H l M D r k => by
  rw [exS.eq_def] at k
  exact k σ M H Step.refl r Keep.refl⟩
theorem psd_pas : PSD X W xi pr (.Pass pos) (exS Γ .pas) := ⟨_, ps_pass, fun Xs σ H l M D r k => by
  rw [exS.eq_def] at k
  exact k σ M H Step.refl r Keep.refl⟩
theorem pbd_nil : PBD X W xi pr [] (exB Γ []) := ⟨_, pss_nil, fun Xs σ H l M D r k => by
  rw [exB.eq_def] at k
  exact k σ M H Step.refl r Keep.refl⟩
theorem pbd_cons {st : Stmt} {rest : List Stmt} {s' : S} {r' : List S} (h1 : PSD X W xi pr st (exS Γ s')) (h2 : PBD X W xi pr rest (exB Γ r')) : PBD X W xi pr (st :: rest) (exB Γ (s' :: r')) := by
  obtain ⟨t, ht, q⟩ := h1.ex
  obtain ⟨u, hu, o⟩ := h2.ex
  refine ⟨_, pss_cons ht hu, fun Xs σ H l M D r k => ?_⟩
  rw [exB.eq_def] at k
  dsimp only at k
  refine q Xs σ H l M _ r ?_
  cases e1 : exS Γ s' l with
  | bad => rw [e1] at k; exact k.elim
  | exc x l1 => rw [e1] at k; exact k
  | ok z =>
    obtain ⟨f, l1⟩ := z
    rw [e1] at k
    cases f with
    | nx => exact fun σ' M' H' s' r' kk => o Xs σ' H' l1 M' D r' (PoS.shift (show PoS _ σ M H D (exB Γ _ l1) from k) s' kk)
    | brk => exact k
    | cnt => exact k
    | ret s => exact k
end
end DL

set_option Elab.async false
set_option linter.all false
set_option maxRecDepth 100000
set_option maxHeartbeats 4000000
namespace DL
open PySem PySem.Spec PyProof.Rows L2

/-! ## displays -/
section
variable {K : PySem.W.Frag} {Xs M M' : Ad} {σ : L2.St} {l : Loc} {H : Hp} {ks : List Nat}
theorem RepSs.get : ∀ {vs : List V} {ss : List Sl} {j : Nat} {s : Sl} {v : V}, RepSs K Xs M σ l H vs ss → ss[j]? = some s → vs[j]? = some v → RepR K Xs M σ l H v s
  | [], [], j, s, v, _, e, _ => by simp at e
  | w :: vs, z :: ss, 0, s, v, h, e, f => by simp at e f; subst e; subst f; exact h.1
  | w :: vs, z :: ss, j + 1, s, v, h, e, f => RepSs.get h.2.2 (show ss[j]? = some s by simpa using e) (show vs[j]? = some v by simpa using f)
  | [], _ :: _, _, _, _, h, _, _ => h.elim
  | _ :: _, [], _, _, _, h, _, _ => h.elim
theorem RepSs.cross : ∀ {vs : List V} {ss : List Sl} {j k : Nat} {s t : Sl} {v w : V} {a : Addr}, RepSs K Xs M σ l H vs ss → ss[j]? = some s → vs[j]? = some v → ss[k]? = some t → vs[k]? = some w → Ows H v s a → Ows H w t a → j = k
  | [], [], j, _, _, _, _, _, _, _, e, _, _, _, _, _ => by simp at e
  | y :: vs, z :: ss, 0, 0, s, t, v, w, a, h, e, f, e2, f2, o, o2 => rfl
  | y :: vs, z :: ss, 0, k + 1, s, t, v, w, a, h, e, f, e2, f2, o, o2 => by
    simp at e f
    subst e; subst f
    exact absurd ⟨k, t, w, by simpa using e2, by simpa using f2, o2⟩ (h.2.1 a o)
  | y :: vs, z :: ss, j + 1, 0, s, t, v, w, a, h, e, f, e2, f2, o, o2 => by
    simp at e2 f2
    subst e2; subst f2
    exact absurd ⟨j, s, v, by simpa using e, by simpa using f, o⟩ (h.2.1 a o2)
  | y :: vs, z :: ss, j + 1, k + 1, s, t, v, w, a, h, e, f, e2, f2, o, o2 => by
    rw [RepSs.cross h.2.2 (show ss[j]? = some s by simpa using e) (show vs[j]? = some v by simpa using f) (show ss[k]? = some t by simpa using e2) (show vs[k]? = some w by simpa using f2) o o2]
  | [], _ :: _, _, _, _, _, _, _, _, h, _, _, _, _, _, _ => h.elim
  | _ :: _, [], _, _, _, _, _, _, _, h, _, _, _, _, _, _ => h.elim
theorem cellsOf_get : ∀ {ss : List Sl} {n j : Nat}, (cellsOf ks n ss)[j]? = (ss[j]?).map (cellOf (ks.contains (n + j)))
  | [], n, j => rfl
  | s :: ss, n, 0 => rfl
  | s :: ss, n, j + 1 => by
    show (cellsOf ks (n + 1) ss)[j]? = _
    rw [cellsOf_get, show n + 1 + j = n + (j + 1) by omega]
    rfl
theorem cellsOf_len : ∀ {ss : List Sl} {n : Nat}, (cellsOf ks n ss).length = ss.length
  | [], n => rfl
  | s :: ss, n => by rw [cellsOf, List.length_cons, List.length_cons, cellsOf_len]
theorem inn1_cell {v : V} {s : Sl} {b : Bool} {a : Addr} (h : a ∈ inn1 v (cellOf b s)) : b = true ∧ (∃ ds, s = .own ds) ∧ Ows H v s a := by
  cases b with
  | false => cases v <;> (unfold cellOf inn1 at h; cases h)
  | true =>
    cases s with
    | own ds =>
      cases v with
      | ref p =>
        have : a = p := List.mem_singleton.mp h
        exact ⟨rfl, ⟨ds, rfl⟩, by rw [this]; exact rfl⟩
      | _ => cases h
    | un => cases v <;> (unfold cellOf inn1 at h; cases h)
    | val d => cases v <;> (unfold cellOf inn1 at h; cases h)
    | nst cs => cases v <;> (unfold cellOf inn1 at h; cases h)
theorem inn_idx : ∀ {vs : List V} {cs : List Cl} {a : Addr}, a ∈ inn vs cs → ∃ (j : Nat) (v : V) (c : Cl), vs[j]? = some v ∧ cs[j]? = some c ∧ a ∈ inn1 v c
  | [], _, a, h => by unfold inn at h; cases h
  | _ :: _, [], a, h => by unfold inn at h; cases h
  | v :: vs, c :: cs, a, h => by
    rw [inn] at h
    rcases List.mem_append.mp h with h | h
    · exact ⟨0, v, c, rfl, rfl, h⟩
    · obtain ⟨j, w, d, h1, h2, h3⟩ := inn_idx h
      exact ⟨j + 1, w, d, by simpa using h1, by simpa using h2, h3⟩
theorem inn_nodup : ∀ {vs : List V} {ss : List Sl} {n : Nat}, RepSs K Xs M σ l H vs ss → (inn vs (cellsOf ks n ss)).Nodup ∧ ∀ a ∈ inn vs (cellsOf ks n ss), Owt H vs ss a
  | [], [], n, _ => ⟨by unfold inn; exact List.nodup_nil, fun a h => by unfold inn at h; cases h⟩
  | v :: vs, s :: ss, n, h => by
    obtain ⟨h1, h2⟩ := inn_nodup (n := n + 1) h.2.2
    rw [cellsOf, inn]
    refine ⟨List.nodup_append.mpr ⟨?_, h1, fun a ha b hb e => ?_⟩, fun a ha => ?_⟩
    · cases v <;> cases (cellOf (ks.contains n) s) <;> simp [inn1]
    · subst e
      exact h.2.1 a (inn1_cell ha).2.2 (h2 a hb)
    · rcases List.mem_append.mp ha with ha | ha
      · exact ⟨0, s, v, rfl, rfl, (inn1_cell ha).2.2⟩
      · obtain ⟨j, t, w, q1, q2, q3⟩ := h2 a ha
        exact ⟨j + 1, t, w, by simpa using q1, by simpa using q2, q3⟩
  | [], _ :: _, _, h => h.elim
  | _ :: _, [], _, h => h.elim
theorem cells_rep {tb : Ad} {vs : List V} {ss : List Sl} {n : Nat} (r : RepLoc tb K Xs M σ H l) (h : RepSs K Xs M σ l H vs ss) : ∃ M', (∀ b, M' b → M b) ∧ RepLoc tb K Xs M' σ H l ∧ RepCs K Xs M' H vs (cellsOf ks n ss) ∧ (inn vs (cellsOf ks n ss)).Nodup ∧ ∀ a ∈ inn vs (cellsOf ks n ss), ¬ Owd l σ H a := by
  obtain ⟨nd, io⟩ := inn_nodup (ks := ks) (n := n) h
  have so : ∀ a, Owt H vs ss a → ¬ Owd l σ H a := fun a o => by
    obtain ⟨j, t, w, q1, q2, q3⟩ := o
    exact (h.get q1 q2).sep q3
  refine ⟨fun a => M a ∧ ¬ (Owt H vs ss a ∧ a ∉ inn vs (cellsOf ks n ss)), fun b z => z.1, r.lessP _ fun a z => so a z.1, RepCs.mk (by rw [cellsOf_len, h.length]) fun j w c e1 e2 => ?_, nd, fun a ha => so a (io a ha)⟩
  rw [cellsOf_get, Option.map_eq_some_iff] at e2
  obtain ⟨s, e3, rfl⟩ := e2
  have rj := (h.get e3 e1).toS
  have sub : ∀ b, Fb Xs (fun a => M a ∧ ¬ (Owt H vs ss a ∧ a ∉ inn vs (cellsOf ks n ss))) b → Fb Xs M b := fun b z => z.elim .inl fun q => .inr q.1
  have fr : (∀ a, Ows H w s a → a ∉ inn vs (cellsOf ks n ss)) → Rep K (Fb Xs (fun a => M a ∧ ¬ (Owt H vs ss a ∧ a ∉ inn vs (cellsOf ks n ss)))) H w s.d := fun hh => rj.froz r.dis sub fun a o z => z.2 ⟨⟨j, s, w, e3, e1, o⟩, hh a o⟩
  have out : (∀ a, a ∉ inn1 w (cellOf (ks.contains (n + j)) s)) → ∀ a, Ows H w s a → a ∉ inn vs (cellsOf ks n ss) := fun hh a o z => by
    obtain ⟨k, u, c, f1, f2, f3⟩ := inn_idx z
    rw [cellsOf_get, Option.map_eq_some_iff] at f2
    obtain ⟨t, f4, rfl⟩ := f2
    have := h.cross e3 e1 f4 f1 o (inn1_cell f3).2.2
    subst this
    rw [e3] at f4; cases f4
    rw [e1] at f1; cases f1
    exact hh a f3
  cases hb : ks.contains (n + j) with
  | false =>
    refine fr (out fun a z => ?_)
    rw [hb] at z
    cases (inn1_cell (H := H) z).1
  | true =>
    cases s with
    | own ds =>
      obtain ⟨b, ws, rfl, t1, t2, t3⟩ := rj
      refine ⟨b, ws, rfl, ⟨t1, fun z => z.2 ?_⟩, t2, t3.mono sub⟩
      exact inn_at.innM (c := .o ds) (by rw [cellsOf_get, e3, hb]; rfl) e1 (List.mem_singleton.mpr rfl)
    | un => exact rj.elim
    | val d => exact fr fun a o => o.elim
    | nst cs =>
      refine fr (out fun a z => ?_)
      rw [hb] at z
      obtain ⟨_, ⟨ds, q⟩, _⟩ := inn1_cell (H := H) z
      cases q
end
section
variable {X : Cx} {W : WX} {xi : XI} {Γ : Gam}
theorem pd_npa {es : List Expr} {es' : List E} {ks : List Nat} {pos : Pos} (h : PLS X W xi es (evSs Γ es')) : PD X W xi (.List es pos) (evX Γ (.npa ks es')) := by
  obtain ⟨t, ht, q⟩ := h.ex
  refine ⟨_, pe_lst ht, fun Xs σ H l M Q rl g => ?_⟩
  rw [evX.eq_def] at g
  dsimp only at g
  refine q Xs σ H l M _ rl (g.bind.imp fun ss l1 M1 H1 st1 rl1 g1 vs rv => ?_)
  dsimp only at g1
  by_cases hz : ss.length ≤ 16777216
  · rw [if_pos hz] at g1
    refine ⟨by rw [rv.length, nat_sl]; exact hz, fun p n => ?_⟩
    obtain ⟨M', hm, rl2, rc, nd, no⟩ := cells_rep (ks := ks) (n := 0) rl1 rv
    have st : Step M' H1 (fun b => M' b ∨ b = p) (upd H1 p (.lst vs)) := Step.newM n
    have inM := inn_M rc
    refine g1 _ _ ((Step.refl.less hm).trans st) (rl2.newM n) (.ref p) ⟨⟨p, vs, rfl, .inr rfl, upd_same, ?_, ?_⟩, fun a o z => ?_⟩
    · exact rc.move (fun b u nx e t => st.ext b u (fun z => nx (.inr z)) e t) st.fb fun a ha => ⟨.inl (inM a ha).1, fun ws e => by rw [upd_ne (ne_of_none e n)]; exact e⟩
    · refine List.nodup_cons.mpr ⟨fun z => ?_, nd⟩
      obtain ⟨_, ws, e⟩ := inM p z
      rw [n] at e; cases e
    · obtain ⟨p', us, ep, o1, o2⟩ := o
      cases ep
      rw [upd_same] at o1; cases o1
      have z1 := z.new rl2 n
      rcases List.mem_cons.mp o2 with rfl | o2
      · obtain ⟨_, ws, e⟩ := rl2.owd_M z1
        rw [n] at e; cases e
      · exact no a o2 z1
  · rw [if_neg hz] at g1; exact g1.elim
end
end DL

set_option Elab.async false
set_option linter.all false
set_option maxRecDepth 100000
set_option maxHeartbeats 4000000
namespace DL
open PySem PySem.Spec PyProof.Rows L2

section
variable {tb : Ad} {K : PySem.W.Frag} {Xs M : Ad} {σ : L2.St} {H : Hp} {l : Loc} {i n : Nat} {cs : List Cl} {c : Cl} {a : Addr} {vs : List V} {w y : V} {d : D}
/-- an item of the outer list is stored -/
theorem RepLoc.putOuter (r : RepLoc tb K Xs M σ H l) (e : l[i]? = some (.nst cs)) (ec : cs[n]? = some c) (ca : CellAt σ i n a vs w H) (h : Rep K (Fb Xs M) H y d) :
    Step M H M (upd H a (.lst (vs.set n y))) ∧ RepLoc tb K Xs M σ (upd H a (.lst (vs.set n y))) (l.set i (.nst (cs.set n (.v d)))) := by
  obtain ⟨p, us, h1, q1, q2, q3, q4⟩ := r.nst i cs e
  rw [ca.s] at h1; cases h1
  rw [ca.h] at q2; cases q2
  obtain ⟨A, B, k1, k2, k3⟩ := inn_at q3.length ec ca.g
  have st : Step M H M (upd H a (.lst (vs.set n y))) := Step.put q1 ca.h
  have nd := (List.nodup_cons.mp q4)
  have e0 : inn (vs.set n y) (cs.set n (.v d)) = A ++ B := by
    rw [k2]
    cases y <;> rfl
  have sub : ∀ b, b ∈ A ++ B → b ∈ inn vs cs := fun b hb => by
    rw [k1]
    rcases List.mem_append.mp hb with hb | hb
    · exact List.mem_append_left _ hb
    · exact List.mem_append_right _ (List.mem_append_right _ hb)
  have nd2 := nd.2
  rw [k1] at nd2
  have ndAB : (A ++ B).Nodup := List.nodup_append.mpr ⟨(List.nodup_append.mp nd2).1, (List.nodup_append.mp (List.nodup_append.mp nd2).2.1).2.1, fun x hx y hy => (List.nodup_append.mp nd2).2.2 x hx y (List.mem_append_right _ hy)⟩
  have hl : (vs.set n y).length = (cs.set n (.v d)).length := by rw [List.length_set, List.length_set]; exact q3.length
  refine r.putS e ca.s ⟨a, vs, rfl, ca.h, List.mem_cons_self⟩ ⟨a, vs.set n y, rfl, q1, upd_same, RepCs.mk hl fun m w2 c2 f1 f2 => ?_, List.nodup_cons.mpr ⟨fun z => nd.1 (sub a (by rw [← e0]; exact z)), by rw [e0]; exact ndAB⟩⟩ fun x o => ?_
  · by_cases hm : m = n
    · subst hm
      rw [List.getElem?_set_self (List.getElem?_eq_some_iff.mp ec).1] at f2
      rw [List.getElem?_set_self (List.getElem?_eq_some_iff.mp ca.g).1] at f1
      cases f2
      cases f1
      exact Rep.step (X := Xs) st h
    · rw [List.getElem?_set_ne (Ne.symm hm)] at f1 f2
      obtain ⟨w3, f3, f4⟩ := q3.get f2
      rw [f1] at f3; cases f3
      refine f4.move (fun x u nx q t => st.ext x u (fun z => nx (.inr z)) q t) st.fb fun x hx => ⟨(inn_M q3 x (inn_at.innM f2 f1 hx)).1, fun us q => ?_⟩
      rw [upd_ne (fun z => nd.1 (by rw [← z]; exact inn_at.innM f2 f1 hx))]; exact q
  · obtain ⟨p, us, ep, o1, o2⟩ := o
    cases ep
    rw [upd_same] at o1
    cases o1
    refine r.only e ca.s ⟨a, vs, rfl, ca.h, ?_⟩
    rw [e0] at o2
    rcases List.mem_cons.mp o2 with o2 | o2
    · exact o2 ▸ List.mem_cons_self
    · exact List.mem_cons_of_mem _ (sub x o2)
end
section
variable {X : Cx} {W : WX} {xi : XI} {Γ : Gam} {x : Str} {px ps pos : Pos} {kx : Expr} {k' : E} {i : Nat} {pr : List Nat}
theorem ceoS {C : Cs} {σ : L2.St} {M : Ad} {H : Hp} {D : Ends} {l : Loc} {F : List Cl → Nat → List DL.D → Loc → R (Fl × Loc)} (k : E)
    (g : PoS C σ M H D (match nstAt l i with
    | some _ => (evX Γ k l).bind fun r => (match nstAt r.2 i, r.1.d with
      | some cs, .int j => (match ixN cs.length j with
        | some m => (match cs[m]? with
          | some (.o ds) => F cs m ds r.2
          | _ => .bad)
        | none => .bad)
      | _, _ => .bad)
    | none => .bad)) :
    ∃ cs0, nstAt l i = some cs0 ∧ Po (C.cf σ) M H (fun s l1 M1 H1 => ∃ cs j n c, nstAt l1 i = some cs ∧ s.d = .int j ∧ ixN cs.length j = some n ∧ cs[n]? = some c ∧ ∃ ds, c = .o ds ∧ PoS C σ M1 H1 D (F cs n ds l1)) (evX Γ k l) := by
  cases e0 : nstAt l i with
  | none => rw [e0] at g; exact g.elim
  | some cs0 =>
    rw [e0] at g
    refine ⟨cs0, rfl, (PoS.bind g).imp fun s l1 M1 H1 st1 rl1 g1 => ?_⟩
    dsimp only at g1
    cases e1 : nstAt l1 i with
    | none => rw [e1] at g1; exact g1.elim
    | some cs =>
      rw [e1] at g1
      cases e2 : s.d with
      | int j =>
        rw [e2] at g1
        dsimp only at g1
        cases e3 : ixN cs.length j with
        | none => rw [e3] at g1; exact g1.elim
        | some n =>
          rw [e3] at g1
          dsimp only at g1
          cases e4 : cs[n]? with
          | none => rw [e4] at g1; exact g1.elim
          | some c =>
            rw [e4] at g1
            cases c with
            | v d => exact g1.elim
            | o ds => exact ⟨cs, j, n, .o ds, rfl, rfl, e3, e4, ds, rfl, g1⟩
      | _ => rw [e2] at g1; exact g1.elim
/-- x[k] = e -/
theorem psd_nsx {e : Expr} {e' : E} (hv : PE X (.Name x px) (tVar i)) (hk : PD X W xi kx (evX Γ k')) (he : PD X W xi e (evX Γ e')) (hc : notComp e = true) (hpl : plainIx kx = true) :
    PSD X W xi pr (.Assign [.Subscript (.Name x px) kx ps] e pos) (exS Γ (.nsx i k' e')) := by
  obtain ⟨t, ht, q⟩ := he.ex
  obtain ⟨u, hu, o⟩ := hk.ex
  have hsw : swapsWithSole [.Subscript (.Name x px) kx ps] e pos.line X.env = pure false := swSole hc
  have hss : swappedStores [.Subscript (.Name x px) kx ps] e X.env = pure none := by cases e <;> rfl
  refine ⟨_, ps_asg ht (pg_sub hv hu set_list (subAssign_ok hpl)) hsw hss rfl, fun Xs σ H l M D r k => ?_⟩
  rw [exS.eq_def] at k
  refine q Xs σ H l M _ r (k.bind.imp fun s l1 M1 H1 st1 rl1 k1 v rv => ?_)
  dsimp only [Cs.cf] at k1 rl1 rv
  obtain ⟨M1', hm, rl1', rv'⟩ := RepR.frozen rl1 rv
  have k2 := k1.shift (Step.refl.less hm) Keep.refl
  cases e1 : nstAt l1 i with
  | none => rw [e1] at k2; exact k2.elim
  | some ds0 =>
    rw [e1] at k2
    obtain ⟨a, vs, g1, g2, g3, g4⟩ := rl1'.nst i _ (nstAt_some e1)
    refine ⟨.ref a, g1, o Xs σ H1 l1 M1' _ rl1' (PoS.bind k2 |>.imp fun s2 l2 M2 H2 st2 rl2 k3 w rw2 => ?_)⟩
    dsimp only [Cs.cf] at k3 rl2 rw2
    cases e2 : nstAt l2 i with
    | none => rw [e2] at k3; exact k3.elim
    | some cs =>
      rw [e2] at k3
      cases e3 : s2.d with
      | int j =>
        rw [e3] at k3
        dsimp only at k3
        cases e4 : ixN cs.length j with
        | none => rw [e4] at k3; exact k3.elim
        | some m =>
          rw [e4] at k3
          have hw : w = .int j := (RepR.pkd rw2 e3).int'
          subst hw
          have hmlt : m < cs.length := (ixN_seq e4).2.1
          obtain ⟨c, ec⟩ : ∃ c, cs[m]? = some c := ⟨_, List.getElem?_eq_getElem hmlt⟩
          obtain ⟨b, us, y, ca, _, _⟩ := rl2.cell (nstAt_some e2) ec
          have q1 := ca.s
          rw [g1] at q1
          have : a = b := by simpa using q1
          subst this
          obtain ⟨st3, rl3⟩ := rl2.putOuter (nstAt_some e2) ec ca (rv'.step st2)
          obtain ⟨_, us', g1', _, g3', g4', _⟩ := rl2.nst i cs (nstAt_some e2)
          rw [ca.s] at g1'; cases g1'
          rw [ca.h] at g3'; cases g3'
          exact ⟨a, us, j, m, rfl, rfl, ca.h, by rw [g4'.length]; exact e4, k3 σ M2 _ st3 rl3 Keep.refl⟩
      | _ => rw [e3] at k3; exact k3.elim
/-- x[k].append(e) -/
theorem psd_nap {pa pc : Pos} {e : Expr} {e' : E} (hv : PE X (.Name x px) (tVar i)) (hk : PD X W xi kx (evX Γ k')) (hpl : PlainIx kx) (he : PD X W xi e (evX Γ e')) (hs : notStar e = true) (hl : (pa.endLine == pc.line) = true) :
    PSD X W xi pr (.Expr (.Call (.Attribute (.Subscript (.Name x px) kx ps) "append" pa) [e] [] pc) pos) (exS Γ (.nap i k' e')) := by
  obtain ⟨t, ht, q⟩ := he.ex
  obtain ⟨tc, htc, qc⟩ := cell_core (ps := ps) hv hk hpl
  have se := starEach_cons (es := []) (env := X.env) hs
  have hpa : PA X [e] (tCons t tNil) := pa_cons ht pa_nil se
  refine ⟨_, ps_expr (pe_bm PySem.F.plainAttrs_list PySem.F.slot_list_append PySem.F.type_list_append mt_append htc hpa rfl (by rw [se]; rfl) hl se rfl) rfl, fun Xs σ H l M D r k => ?_⟩
  rw [exS.eq_def] at k
  dsimp only at k
  obtain ⟨cs0, e0, g⟩ := ceoS (F := fun cs n ds l1 => (evX Γ e' (l1.set i .un)).bind fun r1 => if ds.length < 16777216 then R.ok (Fl.nx, r1.2.set i (.nst (cs.set n (.o (ds ++ [r1.1.d]))))) else .bad) k' k
  refine qc Xs σ H l M _ _ cs0 r e0 g fun s l1 M1 H1 st1 rl1 g1 => ?_
  obtain ⟨cs, j, n, c, h1, h2, h3, h4, ds, rfl, h5⟩ := g1
  refine ⟨cs, j, n, _, h1, h2, h3, h4, fun a vs w ca rc => ?_⟩
  obtain ⟨b, ws, rfl, t1, t2, t3⟩ := rc
  refine ⟨.inl ⟨rfl, ws, .inl (.inl t2)⟩, ?_⟩
  have h1' := nstAt_some h1
  obtain ⟨v, hσ, ru, rr⟩ := rl1.take h1' (fun z => by cases z)
  rw [ca.s] at hσ; cases hσ
  have rs := rr.toS
  have rh := ru.hideP (P := Ows H1 (.ref a) (.nst cs)) (fun a o => (rs.ows_M o).1) (fun a o => rr.sep o)
  refine q _ σ H1 _ _ _ rh ((Po.hide (fun a o => (rs.ows_M o).1) (fun a o x => rl1.dis a x (rs.ows_M o).1) (PoS.bind h5)).imp fun y l2 M2 H2 st2 rl2 g2 u ru2 => ?_)
  dsimp only at g2
  obtain ⟨M2', hm, rl2', ru3⟩ := RepR.frozen rl2 ru2
  have st2' := st2.less hm
  split at g2
  · rename_i hz
    have rb := RepLoc.back rs rfl st2' rl2' ca.s (fun a x => rl1.dis a x)
    have hi : i < l2.length := by rw [← rl2.len]; exact (List.getElem?_eq_some_iff.mp ca.s).1
    have e4 : (l2.set i (.nst cs))[i]? = some (.nst cs) := List.getElem?_set_self hi
    have ha : H2 a = some (.lst vs) := st2.lst (fun z => z.2 ⟨a, vs, rfl, ca.h, List.mem_cons_self⟩) ca.h
    have ca2 : CellAt σ i n a vs (.ref b) H2 := ⟨ca.s, ha, ca.g⟩
    obtain ⟨a', vs', w', ca3, rc3, _⟩ := rb.cell e4 h4
    have ea : a' = a := by
      have := ca3.s
      rw [ca.s] at this
      simpa using this.symm
    subst ea
    have := ca3.h
    rw [ha] at this; cases this
    have := ca3.g
    rw [ca.g] at this; cases this
    obtain ⟨b', us, eb, u1, u2, u3⟩ := rc3
    cases eb
    obtain ⟨st3, rl3⟩ := rb.putCell e4 h4 ca2 (u3.append (RepL.cons (ru3.mono fun y z => fbp_same.mpr z) RepL.nil))
    rw [List.set_set] at rl3
    refine ⟨b, us, u, rfl, rfl, u2, by rw [u3.length, nat_sl]; exact hz, g2 σ _ _ (Step.trans ?_ st3) rl3 Keep.refl⟩
    exact Step.refl.less fun z q => q.imp (hm z) id
  · exact g2.elim
/-- x.append(e), what is appended stays own -/
theorem psd_nao {pa pc : Pos} {e : Expr} {e' : E} (hv : PE X (.Name x px) (tVar i)) (he : PD X W xi e (evX Γ e')) (hs : notStar e = true) (hl : (pa.endLine == pc.line) = true) :
    PSD X W xi pr (.Expr (.Call (.Attribute (.Name x px) "append" pa) [e] [] pc) pos) (exS Γ (.nao i e')) := by
  obtain ⟨t, ht, q⟩ := he.ex
  have se := starEach_cons (es := []) (env := X.env) hs
  have hpa : PA X [e] (tCons t tNil) := pa_cons ht pa_nil se
  refine ⟨_, ps_expr (pe_bm PySem.F.plainAttrs_list PySem.F.slot_list_append PySem.F.type_list_append mt_append hv hpa rfl (by rw [se]; rfl) hl se rfl) rfl, fun Xs σ H l M D r k => ?_⟩
  rw [exS.eq_def] at k
  dsimp only at k
  cases e0 : nstAt l i with
  | none => rw [e0] at k; exact k.elim
  | some cs0 =>
    rw [e0] at k
    obtain ⟨a, vs, g1, g2, g3, g4⟩ := r.nst i _ (nstAt_some e0)
    refine ⟨.ref a, g1, .inl ⟨rfl, vs, .inl (.inl g3)⟩, q Xs σ H l M _ r (PoS.bind k |>.imp fun s l1 M1 H1 st1 rl1 k1 v rv => ?_)⟩
    dsimp only [Cs.cf] at k1 rl1 rv
    cases e1 : nstAt l1 i with
    | none => rw [e1] at k1; exact k1.elim
    | some cs =>
      rw [e1] at k1
      dsimp only at k1
      split at k1
      · rename_i hz
        have ow := nstAt_some e1
        -- what is appended, as a cell
        obtain ⟨M', hm, rl2, rc, hin⟩ : ∃ M', (∀ b, M' b → M1 b) ∧ RepLoc xi.tb X.K Xs M' σ H1 l1 ∧ RepC X.K Xs M' H1 v (cellOf true s) ∧ ∀ b ∈ inn1 v (cellOf true s), ¬ Owd l1 σ H1 b := by
          cases s with
          | un => exact rv.elim
          | val d => exact ⟨M1, fun _ z => z, rl1, rv, fun b z => by cases v <;> (unfold cellOf inn1 at z; cases z)⟩
          | own ds =>
            refine ⟨M1, fun _ z => z, rl1, rv.toS, fun b z => ?_⟩
            exact rv.sep (inn1_cell (H := H1) z).2.2
          | nst cs =>
            obtain ⟨M', hm, rl2, rv2⟩ := RepR.frozen rl1 rv
            exact ⟨M', hm, rl2, rv2, fun b z => by cases v <;> (unfold cellOf inn1 at z; cases z)⟩
        obtain ⟨b, us, q1, q2, q3, q4, q5⟩ := rl2.nst i cs ow
        have q1' : σ[i]? = some (some (V.ref b)) := q1
        rw [g1] at q1'
        have : a = b := by simpa using q1'
        subst this
        have st : Step M' H1 M' (upd H1 a (.lst (us ++ [v]))) := Step.put q2 q3
        have inA : ∀ {vs : List V} {cs : List Cl} {c : Cl}, vs.length = cs.length → inn (vs ++ [v]) (cs ++ [c]) = inn vs cs ++ inn1 v c := by
          intro vs
          induction vs with
          | nil => intro cs c h; cases cs with
            | nil => simp [inn]
            | cons _ _ => simp at h
          | cons w vs ih => intro cs c h; cases cs with
            | nil => simp at h
            | cons d cs => simp only [List.cons_append, inn]; rw [ih (by simpa using h), List.append_assoc]
        have hin2 : ∀ b ∈ inn1 v (cellOf true s), M' b ∧ b ≠ a ∧ b ∉ inn us cs := fun b hb => by
          refine ⟨?_, fun z => hin b hb ⟨i, _, _, ow, g1, a, us, rfl, q3, by rw [z]; exact List.mem_cons_self⟩, fun z => hin b hb ⟨i, _, _, ow, g1, a, us, rfl, q3, List.mem_cons_of_mem _ z⟩⟩
          obtain ⟨_, ⟨ds, rfl⟩, o⟩ := inn1_cell (H := H1) hb
          obtain ⟨p, ws, e, m, _⟩ := rc
          rw [e] at o
          have o : V.ref p = V.ref b := o
          cases o
          exact m
        have nd := List.nodup_cons.mp q5
        have mv : ∀ {w : V} {c : Cl}, RepC X.K Xs M' H1 w c → (∀ b ∈ inn1 w c, M' b ∧ b ≠ a) → RepC X.K Xs M' (upd H1 a (.lst (us ++ [v]))) w c := fun {w c} h hh =>
          h.move (fun x u nx q t => st.ext x u (fun z => nx (.inr z)) q t) st.fb fun b hb => ⟨(hh b hb).1, fun ws e => by rw [upd_ne (hh b hb).2]; exact e⟩
        obtain ⟨st3, rl3⟩ := rl2.putS (z := .nst (cs ++ [cellOf true s])) (ws := us ++ [v]) ow g1 ⟨a, us, rfl, q3, List.mem_cons_self⟩ ⟨a, us ++ [v], rfl, q2, upd_same, RepCs.mk (by rw [List.length_append, List.length_append, q4.length]; rfl) fun m w c f1 f2 => by
            rw [List.getElem?_append] at f1 f2
            rw [q4.length] at f1
            split at f2
            · rename_i hlt
              rw [if_pos hlt] at f1
              obtain ⟨w3, f3, f4⟩ := q4.get f2
              rw [f1] at f3; cases f3
              exact mv f4 fun b hb => ⟨(inn_M q4 b (inn_at.innM f2 f1 hb)).1, fun z => nd.1 (by rw [← z]; exact inn_at.innM f2 f1 hb)⟩
            · rename_i hlt
              rw [if_neg hlt] at f1
              have h0 : m - cs.length = 0 := by
                have := (List.getElem?_eq_some_iff.mp f2).1
                simp at this; omega
              rw [h0] at f1 f2
              simp at f1 f2
              subst f1; subst f2
              exact mv rc fun b hb => ⟨(hin2 b hb).1, (hin2 b hb).2.1⟩, by
            rw [inA q4.length]
            refine List.nodup_cons.mpr ⟨fun z => (List.mem_append.mp z).elim nd.1 fun z => (hin2 a z).2.1 rfl, List.nodup_append.mpr ⟨nd.2, ?_, fun x hx y hy e => (hin2 y hy).2.2 (by rw [← e]; exact hx)⟩⟩
            cases v <;> cases (cellOf true s) <;> simp [inn1]⟩ (fun b o => by
            obtain ⟨p, xs, ep, o1, o2⟩ := o
            cases ep
            rw [upd_same] at o1
            cases o1
            rw [inA q4.length] at o2
            rcases List.mem_cons.mp o2 with o2 | o2
            · exact rl2.only ow g1 ⟨a, us, rfl, q3, o2 ▸ List.mem_cons_self⟩
            rcases List.mem_append.mp o2 with o2 | o2
            · exact rl2.only ow g1 ⟨a, us, rfl, q3, List.mem_cons_of_mem _ o2⟩
            · exact fun z => hin b o2 (z.sub fun j t e n => ⟨(set_un j t e n).2, rfl⟩))
        exact ⟨a, us, v, rfl, rfl, q3, by rw [q4.length, nat_sl]; exact hz, k1 σ M' _ ((Step.refl.less hm).trans st3) rl3 Keep.refl⟩
      · exact k1.elim
/-- x[k][j] = e -/
theorem psd_nsy {jx e : Expr} {j' e' : E} {pos2 : Pos} (hv : PE X (.Name x px) (tVar i)) (hk : PD X W xi kx (evX Γ k')) (hpl : PlainIx kx) (hj : PD X W xi jx (evX Γ j')) (hpl2 : plainIx jx = true) (he : PD X W xi e (evX Γ e')) (hc : notComp e = true) :
    PSD X W xi pr (.Assign [.Subscript (.Subscript (.Name x px) kx ps) jx pos2] e pos) (exS Γ (.nsy i k' j' e')) := by
  obtain ⟨t, ht, q⟩ := he.ex
  obtain ⟨u, hu, o⟩ := hj.ex
  obtain ⟨tc, htc, qc⟩ := cell_core (ps := ps) hv hk hpl
  have hsw : swapsWithSole [.Subscript (.Subscript (.Name x px) kx ps) jx pos2] e pos.line X.env = pure false := swSole hc
  have hss : swappedStores [.Subscript (.Subscript (.Name x px) kx ps) jx pos2] e X.env = pure none := by cases e <;> rfl
  refine ⟨_, ps_asg ht (pg_sub htc hu set_list (subAssign_ok hpl2)) hsw hss rfl, fun Xs σ H l M D r k => ?_⟩
  rw [exS.eq_def] at k
  refine q Xs σ H l M _ r (k.bind.imp fun s l1 M1 H1 st1 rl1 k1 v rv => ?_)
  dsimp only [Cs.cf] at k1 rl1 rv
  obtain ⟨M1', hm, rl1', rv'⟩ := RepR.frozen rl1 rv
  have k2 := k1.shift (Step.refl.less hm) Keep.refl
  obtain ⟨cs0, e0, g⟩ := ceoS (F := fun cs n ds l1 => (evX Γ j' (l1.set i .un)).bind fun r2 => (match r2.1.d with
            | .int b => (match ixN ds.length b with
              | some m => R.ok (Fl.nx, r2.2.set i (.nst (cs.set n (.o (ds.set m s.d)))))
              | none => .bad)
            | _ => .bad)) k' k2
  refine qc Xs σ H1 l1 M1' _ _ cs0 rl1' e0 g fun s2 l2 M2 H2 st2 rl2 g1 => ?_
  obtain ⟨cs, j, n, c, h1, h2, h3, h4, ds, rfl, h5⟩ := g1
  refine ⟨cs, j, n, _, h1, h2, h3, h4, fun a vs w ca rc => ?_⟩
  obtain ⟨b, ws, rfl, t1, t2, t3⟩ := rc
  have h1' := nstAt_some h1
  obtain ⟨v', hσ, ru, rr⟩ := rl2.take h1' (fun z => by cases z)
  rw [ca.s] at hσ; cases hσ
  have rs := rr.toS
  have rh := ru.hideP (P := Ows H2 (.ref a) (.nst cs)) (fun a o => (rs.ows_M o).1) (fun a o => rr.sep o)
  refine o _ σ H2 _ _ _ rh ((Po.hide (fun a o => (rs.ows_M o).1) (fun a o x => rl2.dis a x (rs.ows_M o).1) (PoS.bind h5)).imp fun y l3 M3 H3 st3 rl3 g3 u ru2 => ?_)
  dsimp only at g3
  cases e2 : y.d with
  | int b2 =>
    rw [e2] at g3
    dsimp only at g3
    cases e3 : ixN ds.length b2 with
    | none => rw [e3] at g3; exact g3.elim
    | some m =>
      rw [e3] at g3
      have hu2 := (RepR.pkd ru2 e2).int'
      subst hu2
      have rb := RepLoc.back rs rfl st3 rl3 ca.s (fun a x => rl2.dis a x)
      have hi : i < l3.length := by rw [← rl3.len]; exact (List.getElem?_eq_some_iff.mp ca.s).1
      have e4 : (l3.set i (.nst cs))[i]? = some (.nst cs) := List.getElem?_set_self hi
      have ha : H3 a = some (.lst vs) := st3.lst (fun z => z.2 ⟨a, vs, rfl, ca.h, List.mem_cons_self⟩) ca.h
      have ca2 : CellAt σ i n a vs (.ref b) H3 := ⟨ca.s, ha, ca.g⟩
      obtain ⟨a', vs', w', ca3, rc3, _⟩ := rb.cell e4 h4
      have ea : a' = a := by
        have := ca3.s
        rw [ca.s] at this
        simpa using this.symm
      subst ea
      have := ca3.h
      rw [ha] at this; cases this
      have := ca3.g
      rw [ca.g] at this; cases this
      obtain ⟨b', us, eb, u1, u2, u3⟩ := rc3
      cases eb
      have stu := Step.unhideP (P := Ows H2 (.ref a') (.nst cs)) (fun a o => (rs.ows_M o).1) st3
      have rv3 : Rep X.K (Fb Xs fun b => M3 b ∨ Ows H2 (.ref a') (.nst cs) b) H3 v s.d := Rep.step (X := Xs) (st2.trans stu) rv'
      obtain ⟨st4, rl4⟩ := rb.putCell e4 h4 ca2 (u3.set m rv3)
      rw [List.set_set] at rl4
      exact ⟨b, us, b2, m, rfl, rfl, u2, by rw [u3.length]; exact e3, g3 σ _ _ st4 rl4 Keep.refl⟩
  | _ => rw [e2] at g3; exact g3.elim
end
end DL

set_option Elab.async false
set_option linter.all false
set_option maxRecDepth 100000
set_option maxHeartbeats 8000000
namespace DL
open PySem PySem.Spec PyProof.Rows L2

/-! ## a comprehension that gives own lists within an own list -/
section
variable {tb : Ad} {K : PySem.W.Frag} {Xs M P P' : Ad} {σ : L2.St} {H : Hp} {l : Loc} {D : Addr}
theorem RepLoc.congr (r : RepLoc tb K Xs M σ H l) {X' M' : Ad} (hx : ∀ a, Xs a ↔ X' a) (hm : ∀ a, M a ↔ M' a) : RepLoc tb K X' M' σ H l := by
  have e1 : X' = Xs := funext fun a => propext (hx a).symm
  have e2 : M' = M := funext fun a => propext (hm a).symm
  rw [e1, e2]; exact r
theorem RepLoc.putP (r : RepLoc tb K (Wp Xs P) M σ H l) (hD : P D) (xs : List V) : RepLoc tb K (Wp Xs P) M σ (upd H D (.lst xs)) l :=
  r.same (fun b u n e _ => by rw [upd_ne (fun z => n (.inl (.inr (by rw [z]; exact hD))))]; exact e) (fun b z => .inl z) (fun a z => by
    have hm := (r.owd_M z).1
    exact ⟨hm, fun ws e => by rw [upd_ne (fun q => r.dis D (.inr hD) (by rw [← q]; exact hm))]; exact e⟩) (fun a z => by
    by_cases ha : a = D
    · rw [ha, upd_same]; exact ⟨xs, rfl⟩
    · obtain ⟨ws, e⟩ := r.trk a z
      exact ⟨ws, by rw [upd_ne ha]; exact e⟩) r.dis (fun P' z => tab_upd (fun ps q => by obtain ⟨ws, e⟩ := r.trk D (.inl (.inr hD)); rw [e] at q; cases q) (r.tab P' z))
theorem Step.wp {M M' P : Ad} {H H' : Hp} (s : Step M H M' H') : Step (fun b => M b ∨ P b) H (fun b => M' b ∨ P b) H' :=
  ⟨fun b u n e t => s.ext b u (fun z => n (.inl z)) e t, s.non, fun b z => z.elim (fun q => (s.grow b q).elim (fun q => .inl (.inl q)) .inr) (fun e => .inl (.inr e)), s.tab⟩
/-- cells that are hidden stay -/
theorem RepCs.hid {M' : Ad} {H' : Hp} {vs : List V} {cs : List Cl} (h : RepCs K Xs (fun b => M b ∨ P b) H vs cs) (hp : ∀ a ∈ inn vs cs, P a) (dis : ∀ a, P a → ¬ M a) (s : Step M H M' H') : RepCs K Xs (fun b => M' b ∨ P b) H' vs cs :=
  h.move (fun b u n e t => s.wp.ext b u (fun z => n (.inr z)) e t) s.wp.fb fun a ha => ⟨.inr (hp a ha), fun ws e => s.lst (dis a (hp a ha)) e⟩
theorem inn_snoc {v : V} {c : Cl} : ∀ {vs : List V} {cs : List Cl}, vs.length = cs.length → inn (vs ++ [v]) (cs ++ [c]) = inn vs cs ++ inn1 v c
  | [], [], _ => by simp [inn]
  | [], _ :: _, h => by simp at h
  | _ :: _, [], h => by simp at h
  | w :: vs, d :: cs, h => by simp only [List.cons_append, inn]; rw [inn_snoc (by simpa using h), List.append_assoc]
theorem RepCs.snoc {v : V} {c : Cl} : ∀ {vs : List V} {cs : List Cl}, RepCs K Xs M H vs cs → RepC K Xs M H v c → RepCs K Xs M H (vs ++ [v]) (cs ++ [c])
  | [], [], _, h => ⟨h, trivial⟩
  | w :: vs, d :: cs, r, h => ⟨r.1, RepCs.snoc r.2 h⟩
  | [], _ :: _, r, _ => r.elim
  | _ :: _, [], r, _ => r.elim
theorem inn1_nodup {v : V} {c : Cl} : (inn1 v c).Nodup := by cases v <;> cases c <;> simp [inn1]
end
section
variable {X : Cx} {W : WX} {xi : XI} {Γ : Gam} {elt tg iter : Expr} {ifs : List Expr} {scope : Scope} {own : List (Str × Nat)} {pos : Pos} {e' : E} {t' : Tg} {ik : Nat} {ies fs : List E} {pr ws : List Nat}
/-- what an item becomes: a cell, what it owns taken out of the slots' reach -/
theorem cell_of {tb : Ad} {K : PySem.W.Frag} {Xs P M : Ad} {σ : L2.St} {H : Hp} {l : Loc} {v : V} {s : Sl} (r : RepLoc tb K (Wp Xs P) M σ H l) (h : RepR K (Wp Xs P) M σ l H v s) (nx : ∀ a, P a → ¬ Xs a) :
    ∃ M' P', (∀ a, P' a ↔ P a ∨ a ∈ inn1 v (cellOf true s)) ∧ Step M H (fun b => M' b ∨ a ∈ inn1 v (cellOf true s) ∧ False) H ∧ (∀ b, M' b → M b) ∧ RepLoc tb K (Wp Xs P') M' σ H l ∧ RepC K Xs (fun b => M' b ∨ P' b) H v (cellOf true s) ∧ (∀ a ∈ inn1 v (cellOf true s), M a ∧ ¬ M' a) ∧ (∀ a, P' a → ¬ Xs a) := by
  have plain : cellOf true s = .v s.d → ∃ M' P', (∀ a, P' a ↔ P a ∨ a ∈ inn1 v (cellOf true s)) ∧ Step M H (fun b => M' b ∨ a ∈ inn1 v (cellOf true s) ∧ False) H ∧ (∀ b, M' b → M b) ∧ RepLoc tb K (Wp Xs P') M' σ H l ∧ RepC K Xs (fun b => M' b ∨ P' b) H v (cellOf true s) ∧ (∀ a ∈ inn1 v (cellOf true s), M a ∧ ¬ M' a) ∧ (∀ a, P' a → ¬ Xs a) := fun e => by
    have e1 : inn1 v (cellOf true s) = [] := by rw [e]; cases v <;> rfl
    obtain ⟨M', hm, r2, h2⟩ := RepR.frozen r h
    refine ⟨M', P, fun a => by rw [e1]; simp, Step.refl.less (fun b z => z.elim (hm b) fun q => q.2.elim), hm, r2, ?_, fun a ha => by rw [e1] at ha; (cases ha), nx⟩
    rw [e]
    exact Rep.mono h2 fun b z => fbp_same.mpr z
  cases s with
  | un => exact h.elim
  | val d => exact plain rfl
  | nst cs => exact plain rfl
  | own ds =>
    obtain ⟨b, us, rfl, t1, t2, t3, t4⟩ := h
    have hin : ∀ a, a ∈ inn1 (.ref b) (cellOf true (.own ds)) ↔ a = b := fun a => List.mem_singleton
    have rh := r.hideP (P := fun a => a = b) (fun a e => by rw [e]; exact t1) (fun a e => by rw [e]; exact t4)
    have nb : ¬ Xs b := fun z => r.dis b (.inl z) t1
    refine ⟨fun a => M a ∧ ¬ a = b, fun a => P a ∨ a = b, fun a => by rw [hin a], Step.refl.less (fun b z => z.elim (fun q => q.1) fun q => q.2.elim), fun a z => z.1, rh.congr (fun a => ⟨fun z => z.elim (fun z => z.elim .inl fun p => .inr (.inl p)) fun p => .inr (.inr p), fun z => z.elim (fun x => .inl (.inl x)) fun z => z.elim (fun p => .inl (.inr p)) .inr⟩) (fun a => Iff.rfl), ?_, fun a ha => ?_, fun a z => z.elim (nx a) fun e => by rw [e]; exact nb⟩
    · refine ⟨b, us, rfl, .inr (.inr rfl), t2, t3.mono fun a z => ?_⟩
      rcases z with z | z | z | z
      · exact .inl (.inl z)
      · exact .inr z.1
      · exact .inl (.inr z)
      · exact .inr (by rw [z]; exact t1)
    · rw [hin] at ha
      subst ha
      exact ⟨t1, fun z => z.2 rfl⟩
theorem lc_coreN (hg : ∀ i, PGD (blkF X scope i) pr tg t') (ht : ∀ i, PTsD (blkF X scope i) W0 xi ifs (evTs Γ fs)) (he : ∀ i, PD (blkF X scope i) W0 xi elt (evX Γ e')) (hpr : ∀ i, i < X.N.length → i ∉ ws → i ∈ pr)
    {wi : TI} {Xs M : Ad} {σ : L2.St} {H : Hp} {d : R (List DL.D × Loc)} {Q : VK} (hσ : σ.length = X.N.length) (qi : ∀ R : It → Hp → Prop, Po ⟨X.K, Xs, W, xi, σ⟩ M H (fun xs l' M' H' => ∀ J, ItOk X.K Xs J xs M' H' → R J H') d → wi σ H R)
    (k : Po ⟨X.K, Xs, W, xi, σ⟩ M H (fun s l' M' H' => ∀ v, RepR X.K Xs M' σ l' H' v s → Q v H') (d.bind fun r => match compN (bindT t') (evTs Γ fs) (evX Γ e') ws r.1 [] (wipeD r.2 ws) with
      | .ok (cs, l1) => .ok (.nst cs, l1)
      | _ => .bad)) : tLc wi (wGt (blkF X scope) tg) (wTs (blkF X scope) ifs) (wE (blkF X scope) elt) ws σ H Q := by
  refine qi _ (k.bind.imp fun xs l1 M1 H1 st1 rl1 k1 J hJ D nD => ?_)
  dsimp only at k1
  have nXD : ¬ Fb Xs M1 D := rl1.fresh nD
  -- what is left to do
  let Fin : List DL.D → List Cl → Loc → Ad → Hp → Prop := fun xs acc l2 M2 H2 => match compN (bindT t') (evTs Γ fs) (evX Γ e') ws xs acc l2 with
    | .ok (cs, l3) => ∀ M' H', Step M2 H2 M' H' → RepLoc xi.tb X.K Xs M' σ H' l3 → ∀ v, RepR X.K Xs M' σ l3 H' v (.nst cs) → Q v H'
    | _ => False
  have shift : ∀ {xs acc l2 M2 H2 M3 H3}, Fin xs acc l2 M2 H2 → Step M2 H2 M3 H3 → Fin xs acc l2 M3 H3 := fun {xs acc l2 M2 H2 M3 H3} h s => by
    show match compN (bindT t') (evTs Γ fs) (evX Γ e') ws xs acc l2 with
      | .ok (cs, l3) => ∀ M' H', Step M3 H3 M' H' → RepLoc xi.tb X.K Xs M' σ H' l3 → ∀ v, RepR X.K Xs M' σ l3 H' v (.nst cs) → Q v H'
      | _ => False
    have h : match compN (bindT t') (evTs Γ fs) (evX Γ e') ws xs acc l2 with
      | .ok (cs, l3) => ∀ M' H', Step M2 H2 M' H' → RepLoc xi.tb X.K Xs M' σ H' l3 → ∀ v, RepR X.K Xs M' σ l3 H' v (.nst cs) → Q v H'
      | _ => False := h
    cases e : compN (bindT t') (evTs Γ fs) (evX Γ e') ws xs acc l2 with
    | ok r => rw [e] at h; exact fun M' H' s2 => h M' H' (s.trans s2)
    | exc x l => rw [e] at h; exact h
    | bad => rw [e] at h; exact h
  let St : Nat → Hp → Prop := fun i H2 => ∃ (M2 P : Ad) (l2 : Loc) (acc : List Cl) (vs : List V), Step M1 H1 (fun b => M2 b ∨ P b) H2 ∧ RepLoc xi.tb X.K (Wp Xs P) M2 (L2.wipe σ ws) H2 (wipeD l2 ws) ∧ H2 D = some (.lst vs) ∧
    RepCs X.K Xs (fun b => M2 b ∨ P b) H2 vs acc ∧ (D :: inn vs acc).Nodup ∧ (∀ a ∈ D :: inn vs acc, P a) ∧ (∀ a, P a → ¬ Xs a) ∧ Fin (xs.drop i) acc (wipeD l2 ws) (fun b => M2 b ∨ P b) H2
  refine ⟨fun i m H2 => m = xs.length - i ∧ i ≤ xs.length ∧ St i H2, ⟨xs.length, by omega, Nat.zero_le _, M1, (fun a => a = D), l1, [], [], Step.newM nD, (rl1.hide nD).wipe ws, upd_same, trivial, by simp [inn], fun a h => by simpa [inn] using h, fun a e => by rw [e]; exact fun x => nXD (.inl x), ?_⟩, ?_⟩
  · rw [List.drop_zero]
    show match compN (bindT t') (evTs Γ fs) (evX Γ e') ws xs [] (wipeD l1 ws) with
      | .ok (cs, l3) => ∀ M' H', Step (fun b => M1 b ∨ b = D) (upd H1 D (.lst [])) M' H' → RepLoc xi.tb X.K Xs M' σ H' l3 → ∀ v, RepR X.K Xs M' σ l3 H' v (.nst cs) → Q v H'
      | _ => False
    cases e : compN (bindT t') (evTs Γ fs) (evX Γ e') ws xs [] (wipeD l1 ws) with
    | ok r => rw [e] at k1; exact fun M' H' s2 rl v rv => k1 M' H' ((Step.newM nD).trans s2) rl v rv
    | exc x l => rw [e] at k1; exact k1
    | bad => rw [e] at k1; exact k1
  · rintro i m H2 ⟨rfl, hi, M2, P, l2, acc, vs, st2, rl2, hD, ra, nd, hin, nx, k2⟩
    have PD' : P D := hin D List.mem_cons_self
    have Pin : ∀ a ∈ inn vs acc, P a := fun a h => hin a (List.mem_cons_of_mem _ h)
    have trk2 : Trk (Fb Xs fun b => M2 b ∨ P b) H2 := fun a z e => by
      obtain ⟨ws, q⟩ := rl2.trk a (fbp_same.mpr z)
      rw [e] at q; cases q
    obtain ⟨J1, J2⟩ := hJ _ H2 st2 trk2 i
    by_cases hlt : i < xs.length
    · rw [List.drop_eq_getElem_cons hlt] at k2
      have k2 : match compN (bindT t') (evTs Γ fs) (evX Γ e') ws (xs[i] :: xs.drop (i + 1)) acc (wipeD l2 ws) with
        | .ok (cs, l3) => ∀ M' H', Step (fun b => M2 b ∨ P b) H2 M' H' → RepLoc xi.tb X.K Xs M' σ H' l3 → ∀ v, RepR X.K Xs M' σ l3 H' v (.nst cs) → Q v H'
        | _ => False := k2
      unfold compN at k2
      obtain ⟨go, yl⟩ := J1 _ (List.getElem?_eq_getElem hlt)
      cases e1 : bindT t' xs[i] (wipeD (wipeD l2 ws) ws) with
      | none => rw [e1] at k2; exact k2.elim
      | some l3 =>
        rw [e1] at k2
        dsimp only at k2
        refine .inr ⟨go, St (i + 1), fun H' h => ⟨xs.length - (i + 1), by omega, rfl, hlt, h⟩, fun x H3 y => ?_⟩
        obtain ⟨hh, rx⟩ := yl x H3 y
        have ww : L2.wipe (L2.wipe σ ws) ws = L2.wipe σ ws := wipe_eq (wipe_length _ _) fun i _ hv => wipe_get hv
        have rl2' := rl2.wipe ws
        rw [ww] at rl2'
        obtain ⟨st3, rl3⟩ := rl2'.heap hh
        have rx' : Rep X.K (Fb (Wp Xs P) M2) H3 x xs[i] := rx.mono fun b z => fbp_same.mp z
        have hD3 : H3 D = some (.lst vs) := st3.lst (rl2.dis D (.inr PD')) hD
        have ra3 := ra.hid Pin (fun a p => rl2.dis a (.inr p)) st3
        intro ι pins s u I ru
        obtain ⟨g, hg', qg⟩ := (hg ι).ex
        refine hg'.run pins s _ H3 x u _ I ru (qg _ (Wp Xs P) _ H3 _ l3 M2 x _ _ rl3 rx' e1 fun σ3 rl4 kp4 => ?_)
        have hlen : σ3.length = σ.length := by
          rw [rl4.len, bindT_ln _ _ _ _ e1, ← rl3.len, wipe_length]
        have hw3 : L2.wipe σ3 ws = L2.wipe σ ws := wipe_eq hlen fun j hj hv => by
          rw [kp4 j (hpr j (by rw [← hσ]; exact hj) hv), wipe_get hv]
        refine ⟨hw3, fun ι pins s I => ?_⟩
        obtain ⟨tt, htt, qt⟩ := (ht ι).ex
        refine htt.run pins s σ3 H3 _ I (qt (Wp Xs P) σ3 H3 l3 M2 _ rl4 ?_)
        cases e2 : evTs Γ fs l3 with
        | bad => rw [e2] at k2; exact k2.elim
        | exc x l => rw [e2] at k2; exact k2.elim
        | ok r =>
          obtain ⟨b, l4⟩ := r
          rw [e2] at k2
          intro M4 H4 st4 rl5
          have hD4 : H4 D = some (.lst vs) := st4.lst (rl4.dis D (.inr PD')) hD3
          have ra4 := ra3.hid Pin (fun a p => rl4.dis a (.inr p)) st4
          have stA := (st2.trans st3.wp).trans st4.wp
          dsimp only [R.bind] at k2 rl5 ⊢
          cases b with
          | false =>
            rw [if_neg Bool.false_ne_true] at k2 ⊢
            have rl6 := rl5.wipe ws
            rw [hw3] at rl6
            exact ⟨M4, P, l4, acc, vs, stA, rl6, hD4, ra4, nd, hin, nx, shift (show Fin _ _ _ _ _ from k2) (st3.wp.trans st4.wp)⟩
          | true =>
            rw [if_pos rfl] at k2 ⊢
            intro ι pins s I
            obtain ⟨te, hte, qe⟩ := (he ι).ex
            refine hte.run pins s σ3 H4 _ I (qe (Wp Xs P) σ3 H4 l4 M4 _ rl5 ?_)
            cases e3 : evX Γ e' l4 with
            | bad => rw [e3] at k2; exact k2.elim
            | exc x l => rw [e3] at k2; exact k2.elim
            | ok r =>
              obtain ⟨s5, l5⟩ := r
              rw [e3] at k2
              intro M5 H5 st5 rl6 y ry
              dsimp only at k2 rl6 ry
              have hD5 : H5 D = some (.lst vs) := st5.lst (rl5.dis D (.inr PD')) hD4
              have ra5 := ra4.hid Pin (fun a p => rl5.dis a (.inr p)) st5
              obtain ⟨M6, P6, hP6, _, hm6, rl7, rc, hin6, nx6⟩ := cell_of (a := D) rl6 ry nx
              have PD6 : P6 D := (hP6 D).mpr (.inl PD')
              by_cases hz : acc.length < 16777216
              · rw [if_pos hz] at k2
                have rl8 := (rl7.putP PD6 (vs ++ [y])).wipe ws
                rw [hw3] at rl8
                have st6 : Step (fun b => M5 b ∨ P b) H5 (fun b => M6 b ∨ P6 b) H5 := Step.refl.less fun b z => by
                  rcases z with z | z
                  · exact .inl (hm6 b z)
                  · rcases (hP6 b).mp z with z | z
                    · exact .inr z
                    · exact .inl (hin6 b z).1
                have stP : Step (fun b => M6 b ∨ P6 b) H5 (fun b => M6 b ∨ P6 b) (upd H5 D (.lst (vs ++ [y]))) := Step.put (.inr PD6) hD5
                have nin : ∀ a ∈ inn1 y (cellOf true s5), a ≠ D ∧ a ∉ inn vs acc := fun a ha => by
                  have hM := (hin6 a ha).1
                  exact ⟨fun e => rl6.dis D (.inr PD') (by rw [← e]; exact hM), fun z => rl6.dis a (.inr (Pin a z)) hM⟩
                have raS : RepCs X.K Xs (fun b => M6 b ∨ P6 b) H5 (vs ++ [y]) (acc ++ [cellOf true s5]) := by
                  refine RepCs.snoc (ra5.move (fun b u n e t => e) (fun b z => ?_) fun a ha => ⟨.inr ((hP6 a).mpr (.inl (Pin a ha))), fun ws e => e⟩) rc
                  exact .inl (z.elim .inl fun q => .inr (by
                    rcases q with q | q
                    · exact .inl (hm6 b q)
                    · rcases (hP6 b).mp q with q | q
                      · exact .inr q
                      · exact .inl (hin6 b q).1))
                have e9 : inn (vs ++ [y]) (acc ++ [cellOf true s5]) = inn vs acc ++ inn1 y (cellOf true s5) := inn_snoc ra5.length
                refine ⟨vs, hD5, by rw [ra5.length, nat_sl]; exact hz, M6, P6, l5, acc ++ [cellOf true s5], vs ++ [y], ((stA.trans st5.wp).trans st6).trans stP, rl8, upd_same, ?_, ?_, ?_, nx6, shift (show Fin _ _ _ _ _ from k2) ((((st3.wp.trans st4.wp).trans st5.wp).trans st6).trans stP)⟩
                · refine raS.move (fun b u n e t => stP.ext b u (fun z => n (.inr z)) e t) stP.fb fun a ha => ⟨?_, fun ws e => ?_⟩
                  · rw [e9] at ha
                    rcases List.mem_append.mp ha with ha | ha
                    · exact .inr ((hP6 a).mpr (.inl (Pin a ha)))
                    · exact .inr ((hP6 a).mpr (.inr ha))
                  · rw [upd_ne (fun z => ?_)]; · exact e
                    · rw [e9] at ha
                      rcases List.mem_append.mp ha with ha | ha
                      · exact (List.nodup_cons.mp nd).1 (by rw [← z]; exact ha)
                      · exact (nin a ha).1 z
                · rw [e9]
                  refine List.nodup_cons.mpr ⟨fun z => (List.mem_append.mp z).elim (List.nodup_cons.mp nd).1 fun z => (nin D z).1 rfl, List.nodup_append.mpr ⟨(List.nodup_cons.mp nd).2, inn1_nodup, fun x hx z hz e => (nin z hz).2 (by rw [← e]; exact hx)⟩⟩
                · rw [e9]
                  intro a ha
                  rcases List.mem_cons.mp ha with rfl | ha
                  · exact PD6
                  · rcases List.mem_append.mp ha with ha | ha
                    · exact (hP6 a).mpr (.inl (Pin a ha))
                    · exact (hP6 a).mpr (.inr ha)
              · rw [if_neg hz] at k2; exact k2.elim
    · have e : i = xs.length := by omega
      subst e
      refine .inl ⟨J2 (Nat.le_refl _), ?_⟩
      rw [List.drop_length] at k2
      have k2 : ∀ M' H', Step (fun b => M2 b ∨ P b) H2 M' H' → RepLoc xi.tb X.K Xs M' σ H' (wipeD l2 ws) → ∀ v, RepR X.K Xs M' σ (wipeD l2 ws) H' v (.nst acc) → Q v H' := k2
      have rl3 := (rl2.giveP nx).unwipe
      refine k2 _ H2 Step.refl rl3 (.ref D) ⟨⟨D, vs, rfl, .inr PD', hD, ra, nd⟩, fun a o z => ?_⟩
      obtain ⟨p, us, ep, o1, o2⟩ := o
      cases ep
      rw [hD] at o1; cases o1
      exact rl2.dis a (.inr (hin a o2)) (rl2.unwipe.owd_M z).1
theorem pd_lc_coreN (hi : PID X W xi tg iter (evI Γ ik ies)) (hg : ∀ i, PGD (blkF X scope i) pr tg t') (ht : ∀ i, PTsD (blkF X scope i) W0 xi ifs (evTs Γ fs)) (he : ∀ i, PD (blkF X scope i) W0 xi elt (evX Γ e')) (hpr : ∀ i, i < X.N.length → i ∉ ws → i ∈ pr) :
    ∃ wi, PI X tg iter wi ∧ ∀ (Xs : Ad) (σ : L2.St) (H : Hp) (l : Loc) (M : Ad) (Q : VK), σ.length = X.N.length → RepLoc xi.tb X.K Xs M σ H l →
      Po ⟨X.K, Xs, W, xi, σ⟩ M H (fun s l' M' H' => ∀ v, RepR X.K Xs M' σ l' H' v s → Q v H') (evX Γ (.ncm e' t' ik ies fs ws) l) → tLc wi (wGt (blkF X scope) tg) (wTs (blkF X scope) ifs) (wE (blkF X scope) elt) ws σ H Q := by
  obtain ⟨wi, hwi, qi⟩ := hi.ex
  refine ⟨wi, hwi, fun Xs σ H l M Q hσ r k => ?_⟩
  have e0 : evX Γ (.ncm e' t' ik ies fs ws) l = (evI Γ ik ies l).bind fun r => match compN (bindT t') (evTs Γ fs) (evX Γ e') ws r.1 [] (wipeD r.2 ws) with
      | .ok (cs, l1) => .ok (.nst cs, l1)
      | _ => .bad := by
    rw [evX.eq_def]
    unfold evI
    dsimp only
    cases evDs Γ ies l with
    | bad => rfl
    | exc x l => rfl
    | ok r =>
      dsimp only [R.bind]
      cases items ik r.1 <;> rfl
  rw [e0] at k
  exact lc_coreN hg ht he hpr hσ (fun R h => qi Xs σ H l M R r h) k
end
/-- .. translated -/
def trCn (T : TC) (trf : TC → Expr → Option E) (elt tg iter : Expr) (ifs : List Expr) (scope : Scope) : Option E :=
  if blkC T.N (dumS T) scope (ownS T scope) then
    match trTc T scope ((ownS T scope).map (·.2)) 8 tg, trI1 T (trf T) tg iter, trf (T.sub scope) elt, trFs (trf (T.sub scope)) ifs with
    | some t', some (ik, ies), some e', some fs => some (.ncm e' t' ik ies fs ((ownS T scope).map (·.2)))
    | _, _, _, _ => none
  else none
section
variable {X : Cx} {T : TC} {W : WX} {xi : XI} {Γ : Gam} {k : Nat} {scope : Scope}
theorem trCn_ok (G : Good X T Γ W xi k) {trf : TC → Expr → Option E} (IH : ∀ e e', trf T e = some e' → Snd X W xi Γ e e') (IH2 : ∀ i e e', trf (T.sub scope) e = some e' → scope.kind = .function → Snd (blkF X scope i) W0 xi Γ e e') {elt tg iter : Expr} {ifs : List Expr} {c : E} (h : trCn T trf elt tg iter ifs scope = some c) :
    CompOk X W xi Γ elt tg iter ifs scope (ownS T scope) c := by
  unfold trCn at h
  split at h
  · rename_i hb
    have ok := blk_ok G hb
    split at h
    · rename_i t' ik ies e' fs h1 h2 h3 h4
      cases h
      obtain ⟨q1, q2⟩ := trI1_ok (tg := tg) G IH h2
      refine ⟨ok, q2, pd_lc_coreN q1 (fun i => trTc_ok G i _ h1) (fun i => trFs_ok (fun e e' h => IH2 i e e' h ok.kind) h4) (fun i => (IH2 i _ _ h3 ok.kind).pd) fun j hj hv => ?_⟩
      unfold prOf
      rw [List.mem_filter, List.mem_range, ← G.N]
      exact ⟨hj, by simpa using hv⟩
    · cases h
  · cases h
end
end DL

set_option Elab.async false
set_option linter.all false
set_option maxRecDepth 100000
set_option maxHeartbeats 4000000
namespace DL
open PySem PySem.Spec PyProof.Rows L2

/-! ## the translation of statements -/
def locB (T : TC) (x : Str) : Bool := match T.names.lookup x with
  | some .local => true
  | some .cell => true
  | _ => false
def local1 (T : TC) (x : Str) : Bool := match T.names.lookup x with
  | some .local => true
  | _ => false
/-- a slot that may be stored -/
def slotW (T : TC) (pr : List Nat) (x : Str) : Option Nat := match T.N.idxOf? x with
  | some i => if locB T x && !pr.contains i then some i else none
  | none => none
/-- a slot that is read -/
def slotR (T : TC) (x : Str) : Option Nat := match T.N.idxOf? x with
  | some i => if visB T x && okName x then some i else none
  | none => none
def trT (T : TC) (pr : List Nat) : Nat → Expr → Option Tg
  | 0, _ => none
  | n + 1, e => match e with
    | .Name x _ => (slotW T pr x).map .name
    | .Tuple es _ _ => (trTs (trT T pr n) es).map .tup
    | _ => none
def trSs (tr : Stmt → Option S) : List Stmt → Option (List S)
  | [] => some []
  | s :: ss => match tr s, trSs tr ss with
    | some a, some r => some (a :: r)
    | _, _ => none
def parOk (T : TC) (x y : Str) (px py : Pos) (a b : Expr) : Bool :=
  local1 T x && local1 T y && (px.line == py.line) && !(x == y) && notStar a && notStar b && !([a, b].all (foldedForSure 8)) && !([a, b].all (constantsAlone 8))
def parOk3 (T : TC) (x y z : Str) (px py pz : Pos) (a b c : Expr) : Bool :=
  (local1 T x && (local1 T y && local1 T z)) && ((px.line == py.line && px.line == pz.line) && ((!(x == y) && (!(x == z) && !(y == z))) && ([a, b, c].all notStar && (!([a, b, c].all (foldedForSure 8)) && !([a, b, c].all (constantsAlone 8))))))
def trAsg (T : TC) (pr : List Nat) (n : Nat) (tg e : Expr) : Option S := if asgOk' T.names tg e then (match trT T pr n tg, trE T n e with
    | some t', some e' => some (.asg t' e')
    | _, _ => none) else none
def lcOk (T : TC) (x : Str) (px lp : Pos) (scope : Scope) : Bool := local1 T x && (px.line == lp.line) && !(scope.names.any fun (n, k) => n == x && (k == .local || k == .cell))
def trS1 (T : TC) (pr : List Nat) (n : Nat) (tr : Stmt → Option S) : Stmt → Option S
  | .Assign [.Name x px] (.ListComp elt [⟨tg, iter, ifs, 0⟩] scope lp) _ => if lcOk T x px lp scope then (match slotW T pr x, trC T (fun T' => trE T' n) elt tg iter ifs scope with
    | some i, some c => some (.set i c)
    | _, _ => none) else (match slotW T pr x, trE T n (.ListComp elt [⟨tg, iter, ifs, 0⟩] scope lp) with
    | some i, some c => some (.set i c)
    | _, _ => none)
  | .Assign [.Name x _] e _ => match slotW T pr x, trE T n e with
    | some i, some e' => if notComp e then some (.set i e') else none
    | _, _ => none
  | .Assign [.Subscript (.Name x _) k _] e _ => match slotR T x, trE T n k, trE T n e with
    | some i, some k', some e' => if notComp e && plainIx k then some (.setix i k' e') else none
    | _, _, _ => none
  | .Assign [.Tuple [.Name x px, .Name y py] kt pt] (.Tuple [a, b] k2 p2) _ => if parOk T x y px py a b then (match slotW T pr x, slotW T pr y, trL (trE T n) [a, b] with
    | some i, some j, some es => if i == j then none else some (.par [i, j] es)
    | _, _, _ => none) else trAsg T pr n (.Tuple [.Name x px, .Name y py] kt pt) (.Tuple [a, b] k2 p2)
  | .Assign [.Tuple [.Name x px, .Name y py, .Name z pz] kt pt] (.Tuple [a, b, c] k2 p2) _ => if parOk3 T x y z px py pz a b c then (match slotW T pr x, slotW T pr y, slotW T pr z, trL (trE T n) [a, b, c] with
    | some i, some j, some m, some es => if i == j || i == m || j == m then none else some (.par [i, j, m] es)
    | _, _, _, _ => none) else trAsg T pr n (.Tuple [.Name x px, .Name y py, .Name z pz] kt pt) (.Tuple [a, b, c] k2 p2)
  | .Assign [tg] e _ => trAsg T pr n tg e
  | .AugAssign (.Name x _) op e _ => match slotW T pr x, augP op, trE T n e with
    | some i, some p, some e' => some (.aug i p e')
    | _, _, _ => none
  | .AugAssign (.Subscript (.Name x _) k _) op e _ => match slotR T x, trE T n k, augP op, trE T n e with
    | some i, some k', some p, some e' => if plainIx k then some (.augix i k' p e') else none
    | _, _, _, _ => none
  | .Expr (.Call (.Attribute (.Name x px) m pa) [e] [] pc) _ => if m == ("append" : Str) && (pa.endLine == pc.line) && notStar e then (match slotR T x, trE T n e with
    | some i, some e' => some (.app i e')
    | _, _ => none) else if notComp (.Call (.Attribute (.Name x px) m pa) [e] [] pc) then (trE T n (.Call (.Attribute (.Name x px) m pa) [e] [] pc)).map .ex else none
  | .Expr e _ => if notComp e then (trE T n e).map .ex else none
  | .If c a b _ => match trE T n c, trSs tr a, trSs tr b with
    | some c', some a', some b' => some (.ite c' a' b')
    | _, _, _ => none
  | .While c b [] _ => match trE T n c, trSs tr b with
    | some c', some b' => some (.whl c' b')
    | _, _ => none
  | .For tg iter b [] _ => match trT T pr n tg, trI1 T (trE T n) tg iter, trSs tr b with
    | some t', some (ik, ies), some b' => some (.fer t' ik ies b')
    | _, _, _ => none
  | .Return (some (.Name x _)) _ => match slotR T x with
    | some i => if pr.contains i then none else some (.retv i)
    | none => if (T.N.idxOf? x).isNone && glB T x && okName x then (T.cn x).map fun d => .ret (.cst d) else none
  | .Return (some e) _ => (trE T n e).map .ret
  | .Return none _ => some (.ret (.cst .non))
  | .Break _ => some .brk
  | .Continue _ => some .cnt
  | .Pass _ => some .pas
  | _ => none
/-- own lists in a display are handed over -/
def movL : List E → List E
  | [] => []
  | .var i :: es => .mov i :: movL es
  | e :: es => e :: movL es
def trSN (T : TC) (pr : List Nat) (n : Nat) : Stmt → Option S
  | .Assign [.Name x px] (.ListComp elt [⟨tg, iter, ifs, 0⟩] scope lp) _ => (match slotW T pr x with
    | some i => if T.nu.contains i then (trCn T (fun T' => trE T' n) elt tg iter ifs scope).map (.set i) else none
    | none => none)
  | .Assign [.Name x _] (.List es _) _ => (match slotW T pr x, trL (trE T n) es with
    | some i, some es' => if T.nu.contains i then some (.set i (.npa T.nk (movL es'))) else none
    | _, _ => none)
  | .Assign [.Subscript (.Name x _) k _] e _ => (match nuAt T x, trE T n k, trE T n e with
    | some i, some k', some e' => if notComp e && plainIx k then some (.nsx i k' e') else none
    | _, _, _ => none)
  | .Assign [.Subscript (.Subscript (.Name x _) k _) j _] e _ => (match nuAt T x, trE T n k, trE T n j, trE T n e with
    | some i, some k', some j', some e' => if notComp e && plainIx k && plainIx j then some (.nsy i k' j' e') else none
    | _, _, _, _ => none)
  | .Expr (.Call (.Attribute (.Name x _) m pa) [e] [] pc) _ => (match nuAt T x, trE T n e with
    | some i, some e' => if m == ("append" : Str) && (pa.endLine == pc.line) && notStar e then some (.nao i e') else none
    | _, _ => none)
  | .Expr (.Call (.Attribute (.Subscript (.Name x _) k _) m pa) [e] [] pc) _ => (match nuAt T x, trE T n k, trE T n e with
    | some i, some k', some e' => if m == ("append" : Str) && (pa.endLine == pc.line) && notStar e && plainIx k then some (.nap i k' e') else none
    | _, _, _ => none)
  | .Return (some (.Name x _)) _ => (match nuAt T x with
    | some i => if T.nr then none else some (.ret (.frz i))
    | none => none)
  | .Return (some (.List es _)) _ => if T.nr then (trL (trE T n) es).map fun es' => .ret (.npa T.nk (movL es')) else none
  | _ => none
def trS (T : TC) (pr : List Nat) (n : Nat) : Nat → Stmt → Option S
  | 0, _ => none
  | m + 1, s => match trSN T pr n s with
    | some s' => some s'
    | none => trS1 T pr n (trS T pr n m) s

structure GoodS (X : Cx) (T : TC) (Γ : Gam) (W : WX) (xi : XI) (k : Nat) : Prop extends Good X T Γ W xi k where
  hfn : ∀ x, L2.Loc X.env.scope x → X.fn x = true ∨ X.env.scope.names.lookup x = some .local
  pas : PassesOwn (model X.prog X.w) X.A X.env X.xe
section
variable {X : Cx} {T : TC} {W : WX} {xi : XI} {Γ : Gam} {k : Nat} {pr : List Nat}
theorem slotW_ok (G : GoodS X T Γ W xi k) {x : Str} {i : Nat} (h : slotW T pr x = some i) : X.N[i]? = some x ∧ L2.Loc X.env.scope x ∧ i ∉ pr := by
  unfold slotW at h
  split at h
  · rename_i j hj
    split at h
    · rename_i hc
      cases h
      simp only [Bool.and_eq_true, Bool.not_eq_true', List.contains_eq_mem, decide_eq_false_iff_not] at hc
      refine ⟨by rw [G.N]; exact idx_get hj, ?_, hc.2⟩
      have h1 := hc.1
      unfold locB at h1
      unfold L2.Loc
      rw [G.sc]
      split at h1 <;> first | exact .inl (by assumption) | exact .inr (by assumption) | cases h1
    · cases h
  · cases h
theorem slotR_ok (G : GoodS X T Γ W xi k) {x : Str} {i : Nat} (h : slotR T x = some i) (pos : Pos) : PE X (.Name x pos) (tVar i) := by
  unfold slotR at h
  split at h
  · rename_i j hj
    split at h
    · rename_i hc
      cases h
      rw [Bool.and_eq_true] at hc
      have hd := okName_d hc.2
      exact pe_var (by rw [G.N]; exact idx_get hj) (G.vis hc.1) hd.1 hd.2
    · cases h
  · cases h
theorem trT_ok (G : GoodS X T Γ W xi k) : ∀ (n : Nat) {e : Expr} {t' : Tg}, trT T pr n e = some t' → PGD X pr e t' := by
  intro n
  induction n with
  | zero => intro e t' h; unfold trT at h; cases h
  | succ n ih =>
    intro e t' h
    unfold trT at h
    split at h
    · rw [Option.map_eq_some_iff] at h
      obtain ⟨i, h1, rfl⟩ := h
      obtain ⟨g1, g2, g3⟩ := slotW_ok G h1
      exact pgd_name G.nd g1 g2 (G.hfn _ g2) g3
    · rename_i es kk pos
      rw [Option.map_eq_some_iff] at h
      obtain ⟨ts, h1, rfl⟩ := h
      have all : ∀ {es : List Expr} {ts : List Tg}, trTs (trT T pr n) es = some ts → PGsD X pr es ts ∧ es.all notStar = true ∧ ts.length = es.length := by
        intro es
        induction es with
        | nil => intro ts h; cases h; exact ⟨pgsd_nil, rfl, rfl⟩
        | cons e es ihh =>
          intro ts h
          unfold trTs at h
          cases e1 : trT T pr n e with
          | none => rw [e1] at h; cases h
          | some a =>
            cases e2 : trTs (trT T pr n) es with
            | none => rw [e1, e2] at h; cases h
            | some r =>
              rw [e1, e2] at h
              dsimp only at h
              split at h
              · rename_i hs
                cases h
                obtain ⟨q1, q2, q3⟩ := ihh e2
                exact ⟨pgsd_cons (ih e1) q1 hs, by rw [List.all_cons, hs, q2]; rfl, by rw [List.length_cons, List.length_cons, q3]⟩
              · cases h
      obtain ⟨q1, q2, q3⟩ := all h1
      exact pgd_tup G.calm q1 q2 q3
    · cases h
theorem trL_okS {tr : Expr → Option E} (ih : ∀ e e', tr e = some e' → Snd X W xi Γ e e') : ∀ {es : List Expr} {es' : List E}, trL tr es = some es' → PLS X W xi es (evSs Γ es')
  | [], es', h => by cases h; exact pls_nil
  | e :: es, es', h => by
    unfold trL at h
    cases e1 : tr e with
    | none => rw [e1] at h; cases h
    | some a =>
      cases e2 : trL tr es with
      | none => rw [e1, e2] at h; cases h
      | some r =>
        rw [e1, e2] at h
        dsimp only at h
        split at h
        · rename_i hs
          cases h
          exact pls_cons (ih e a e1).pd (trL_okS ih e2) (starEach_cons hs)
        · cases h
theorem trAsg_ok (G : GoodS X T Γ W xi k) {n : Nat} {tg e : Expr} {s' : S} {pos : Pos} (h : trAsg T pr n tg e = some s') : PSD X W xi pr (.Assign [tg] e pos) (exS Γ s') := by
  unfold trAsg at h
  split at h
  · rename_i ho
    split at h
    · rename_i t' e' h1 h2
      cases h
      exact psd_asg' G.sc (trT_ok G n h1) (sndE n G.toGood h2).pd ho
    · cases h
  · cases h
theorem trSs_ok {tr : Stmt → Option S} (ih : ∀ s s', tr s = some s' → PSD X W xi pr s (exS Γ s')) : ∀ {ss : List Stmt} {ss' : List S}, trSs tr ss = some ss' → PBD X W xi pr ss (exB Γ ss')
  | [], ss', h => by cases h; exact pbd_nil
  | s :: ss, ss', h => by
    unfold trSs at h
    cases e1 : tr s with
    | none => rw [e1] at h; cases h
    | some a =>
      cases e2 : trSs tr ss with
      | none => rw [e1, e2] at h; cases h
      | some r =>
        rw [e1, e2] at h
        cases h
        exact pbd_cons (ih s a e1) (trSs_ok ih e2)
theorem psd_retN {pos : Pos} : PSD X W xi pr (.Return none pos) (exS Γ (.ret (.cst .non))) := ⟨_, ps_retN, fun Xs σ H l M D r kk => by
  rw [exS.eq_def] at kk
  dsimp only at kk
  rw [evX.eq_def] at kk
  exact kk .non σ M H Step.refl r Keep.refl (RepR.ofVal Rep.non)⟩
theorem trL_okM {tr : Expr → Option E} (ih : ∀ e e', tr e = some e' → Snd X W xi Γ e e') : ∀ {es : List Expr} {es' : List E}, trL tr es = some es' → PLS X W xi es (evSs Γ (movL es'))
  | [], es', h => by cases h; exact pls_nil
  | e :: es, es', h => by
    unfold trL at h
    cases e1 : tr e with
    | none => rw [e1] at h; cases h
    | some a =>
      cases e2 : trL tr es with
      | none => rw [e1, e2] at h; cases h
      | some r =>
        rw [e1, e2] at h
        dsimp only at h
        split at h
        · rename_i hs
          cases h
          have s := ih e a e1
          by_cases hv : ∃ i, a = .var i
          · obtain ⟨i, rfl⟩ := hv
            obtain ⟨t, ht, rfl⟩ := s.var i rfl
            exact pls_cons (pd_mov ht) (trL_okM ih e2) (starEach_cons hs)
          · have : movL (a :: r) = a :: movL r := by
              cases a <;> first | rfl | exact absurd ⟨_, rfl⟩ hv
            rw [this]
            exact pls_cons s.pd (trL_okM ih e2) (starEach_cons hs)
        · cases h
theorem trSN_ok (G : GoodS X T Γ W xi k) (n : Nat) {s : Stmt} {s' : S} (h : trSN T pr n s = some s') : PSD X W xi pr s (exS Γ s') := by
  have SE : ∀ {e : Expr} {e' : E}, trE T n e = some e' → Snd X W xi Γ e e' := fun {e e'} h => sndE n G.toGood h
  unfold trSN at h
  split at h
  · rename_i x px elt tg iter ifs scope lp pos
    split at h
    · rename_i i h1
      split at h
      · rw [Option.map_eq_some_iff] at h
        obtain ⟨c, h2, rfl⟩ := h
        obtain ⟨g1, g2, g3⟩ := slotW_ok G h1
        have q1 := trCn_ok (trf := fun T' => trE T' n) G.toGood (fun e e' h => sndE n G.toGood h) (fun i e e' h hk => sndE n (G.toGood.blk hk i) h) h2
        cases hl : lcOk T x px lp scope with
        | true =>
          unfold lcOk at hl
          simp only [Bool.and_eq_true, Bool.not_eq_true'] at hl
          obtain ⟨⟨l1, l2⟩, l3⟩ := hl
          refine psd_setLc G.calm G.nd G.kind g1 ?_ g3 q1 l2 l3
          unfold local1 at l1
          rw [G.sc]
          split at l1 <;> first | assumption | cases l1
        | false =>
          refine psd_setC G.nd g1 g2 (G.hfn _ g2) g3 (q1.pd G.calm G.nd) (sw_false ?_)
          rw [G.sc]
          unfold lcOk at hl
          have e : ∀ x : Str, local1 T x = (T.names.lookup x == some .local) := fun x => by
            unfold local1
            cases T.names.lookup x with
            | none => rfl
            | some k => cases k <;> rfl
          rw [e] at hl
          exact hl
      · cases h
    · cases h
  · split at h
    · rename_i i es' h1 h2
      split at h
      · cases h
        obtain ⟨g1, g2, g3⟩ := slotW_ok G h1
        exact psd_set G.nd g1 g2 (G.hfn _ g2) g3 (pd_npa (trL_okM (fun e e' he => SE he) h2)) rfl
      · cases h
    · cases h
  · split at h
    · rename_i i k' e' h1 h2 h3
      split at h
      · rename_i hc
        cases h
        rw [Bool.and_eq_true] at hc
        exact psd_nsx (nuAt_ok G.toGood h1 _) (SE h2).pd (SE h3).pd hc.1 hc.2
      · cases h
    · cases h
  · split at h
    · rename_i i k' j' e' h1 h2 h3 h4
      split at h
      · rename_i hc
        cases h
        simp only [Bool.and_eq_true] at hc
        exact psd_nsy (nuAt_ok G.toGood h1 _) (SE h2).pd (plainIx_ok hc.1.2) (SE h3).pd hc.2 (SE h4).pd hc.1.1
      · cases h
    · cases h
  · split at h
    · rename_i i e' h1 h2
      split at h
      · rename_i hc
        cases h
        simp only [Bool.and_eq_true] at hc
        have hm := eq_of_beq hc.1.1
        subst hm
        exact psd_nao (nuAt_ok G.toGood h1 _) (SE h2).pd hc.2 hc.1.2
      · cases h
    · cases h
  · split at h
    · rename_i i k' e' h1 h2 h3
      split at h
      · rename_i hc
        cases h
        simp only [Bool.and_eq_true] at hc
        have hm := eq_of_beq hc.1.1.1
        subst hm
        exact psd_nap (nuAt_ok G.toGood h1 _) (SE h2).pd (plainIx_ok hc.2) (SE h3).pd hc.1.2 hc.1.1.2
      · cases h
    · cases h
  · split at h
    · rename_i i h1
      split at h
      · cases h
      · cases h
        exact psd_ret (pd_frz (nuAt_ok G.toGood h1 _))
    · cases h
  · split at h
    · rw [Option.map_eq_some_iff] at h
      obtain ⟨es', h2, rfl⟩ := h
      exact psd_ret (pd_npa (trL_okM (fun e e' he => SE he) h2))
    · cases h
  · cases h
theorem sndS (G : GoodS X T Γ W xi k) (n : Nat) : ∀ (m : Nat) {s : Stmt} {s' : S}, trS T pr n m s = some s' → PSD X W xi pr s (exS Γ s') := by
  intro m
  induction m with
  | zero => intro s s' h; unfold trS at h; cases h
  | succ m ih =>
    intro s s' h
    unfold trS at h
    split at h
    · rename_i h2
      cases h
      exact trSN_ok G n h2
    rename_i hz
    clear hz
    have h' : trS1 T pr n (trS T pr n m) s = some s' := h
    clear h
    have IH : ∀ s s', trS T pr n m s = some s' → PSD X W xi pr s (exS Γ s') := fun s s' h => ih h
    generalize trS T pr n m = tr at h' IH
    have h := h'
    clear h' ih
    unfold trS1 at h
    split at h
    · split at h
      · rename_i hl
        unfold lcOk at hl
        simp only [Bool.and_eq_true, Bool.not_eq_true'] at hl
        obtain ⟨⟨l1, l2⟩, l3⟩ := hl
        split at h
        · rename_i i c h1 h2
          cases h
          obtain ⟨g1, g2, g3⟩ := slotW_ok G h1
          obtain ⟨q1, _, _⟩ := trC_ok (trf := fun T' => trE T' n) G.toGood (fun e e' h => sndE n G.toGood h) (fun i e e' h hk => sndE n (G.toGood.blk hk i) h) h2
          refine psd_setLc G.calm G.nd G.kind g1 ?_ g3 q1 l2 l3
          unfold local1 at l1
          rw [G.sc]
          split at l1 <;> first | assumption | cases l1
        · cases h
      · rename_i hl
        split at h
        · rename_i i c h1 h2
          cases h
          obtain ⟨g1, g2, g3⟩ := slotW_ok G h1
          refine psd_setC G.nd g1 g2 (G.hfn _ g2) g3 (sndE n G.toGood h2).pd (sw_false ?_)
          rw [G.sc]
          have hl := Bool.eq_false_iff.mpr hl
          unfold lcOk at hl
          have e : ∀ x : Str, local1 T x = (T.names.lookup x == some .local) := fun x => by
            unfold local1
            cases T.names.lookup x with
            | none => rfl
            | some k => cases k <;> rfl
          rw [e] at hl
          exact hl
        · cases h
    · split at h
      · rename_i i e' h1 h2
        split at h
        · rename_i hc
          cases h
          obtain ⟨g1, g2, g3⟩ := slotW_ok G h1
          exact psd_set G.nd g1 g2 (G.hfn _ g2) g3 (sndE n G.toGood h2).pd hc
        · cases h
      · cases h
    · split at h
      · rename_i i k' e' h1 h2 h3
        split at h
        · rename_i hc
          cases h
          rw [Bool.and_eq_true] at hc
          exact psd_setix (slotR_ok G h1 _) (sndE n G.toGood h2).pd (sndE n G.toGood h3).pd hc.1 hc.2
        · cases h
      · cases h
    · split at h
      · rename_i hp
        unfold parOk at hp
        simp only [Bool.and_eq_true, Bool.not_eq_true'] at hp
        obtain ⟨⟨⟨⟨⟨⟨⟨h1, h2⟩, h3⟩, h4⟩, h5⟩, h6⟩, h7⟩, h8⟩ := hp
        split at h
        · rename_i i j es g1 g2 g3
          split at h
          · cases h
          · rename_i hij
            cases h
            obtain ⟨a1, a2, a3⟩ := slotW_ok G g1
            obtain ⟨b1, b2, b3⟩ := slotW_ok G g2
            have p2 := trL_okS (fun e e' he => sndE n G.toGood he) g3
            have l1 : ∀ {x : Str}, local1 T x = true → X.env.scope.names.lookup x = some .local := fun {x} hx => by
              unfold local1 at hx
              rw [G.sc]
              split at hx <;> first | assumption | cases hx
            have hb : X.env.blockKind = .function := by unfold Env.blockKind; rw [G.kind]; rfl
            exact psd_par G.calm G.nd a1 b1 (fun z => hij (by rw [z]; exact beq_self_eq_true _)) (l1 h1) (l1 h2) p2 a3 b3 (sw2 hb (l1 h1) (l1 h2) h3 h4 h5 h6 h7 h8)
        · cases h
      · exact trAsg_ok G h
    · split at h
      · rename_i hp
        unfold parOk3 at hp
        simp only [Bool.and_eq_true, Bool.not_eq_true'] at hp
        obtain ⟨⟨h1, h2, h3⟩, ⟨h4, h5⟩, ⟨h6, h7, h8⟩, h9, h10, h11⟩ := hp
        split at h
        · rename_i i j m es g1 g2 g3 g4
          split at h
          · cases h
          · rename_i hij
            cases h
            have hij : ¬ (((i == j) = true ∨ (i == m) = true) ∨ (j == m) = true) := fun z => hij (by simpa only [Bool.or_eq_true] using z)
            obtain ⟨a1, a2, a3⟩ := slotW_ok G g1
            obtain ⟨b1, b2, b3⟩ := slotW_ok G g2
            obtain ⟨c1, c2, c3⟩ := slotW_ok G g3
            have p2 := trL_okS (fun e e' he => sndE n G.toGood he) g4
            have l1 : ∀ {x : Str}, local1 T x = true → X.env.scope.names.lookup x = some .local := fun {x} hx => by
              unfold local1 at hx
              rw [G.sc]
              split at hx <;> first | assumption | cases hx
            have hb : X.env.blockKind = .function := by unfold Env.blockKind; rw [G.kind]; rfl
            exact psd_par3 G.calm G.nd a1 b1 c1 (fun z => hij (.inl (.inl (by rw [z]; exact beq_self_eq_true _)))) (fun z => hij (.inl (.inr (by rw [z]; exact beq_self_eq_true _)))) (fun z => hij (.inr (by rw [z]; exact beq_self_eq_true _)))
              (l1 h1) (l1 h2) (l1 h3) p2 a3 b3 c3 (sw3 hb (l1 h1) (l1 h2) (l1 h3) h4 h5 h6 h7 h8 h9 h10 h11)
        · cases h
      · exact trAsg_ok G h
    · exact trAsg_ok G h
    · split at h
      · rename_i i p e' h1 h2 h3
        cases h
        obtain ⟨g1, g2, g3⟩ := slotW_ok G h1
        exact psd_aug G.nd g1 g2 (G.hfn _ g2) g3 (sndE n G.toGood h3).pd h2
      · cases h
    · split at h
      · rename_i i k' p e' h1 h2 h3 h4
        split at h
        · rename_i hc
          cases h
          exact psd_augix (slotR_ok G h1 _) (sndE n G.toGood h2).pd (sndE n G.toGood h4).pd hc h3
        · cases h
      · cases h
    · split at h
      · rename_i hc
        simp only [Bool.and_eq_true] at hc
        obtain ⟨⟨c1, c2⟩, c3⟩ := hc
        have hm := eq_of_beq c1
        subst hm
        split at h
        · rename_i i e' h1 h2
          cases h
          exact psd_app (slotR_ok G h1 _) (sndE n G.toGood h2).pd c3 c2
        · cases h
      · split at h
        · rename_i hc
          rw [Option.map_eq_some_iff] at h
          obtain ⟨e', h1, rfl⟩ := h
          exact psd_ex (sndE n G.toGood h1).pd hc
        · cases h
    · split at h
      · rename_i hc
        rw [Option.map_eq_some_iff] at h
        obtain ⟨e', h1, rfl⟩ := h
        exact psd_ex (sndE n G.toGood h1).pd hc
      · cases h
    · split at h
      · rename_i c' a' b' h1 h2 h3
        cases h
        exact psd_ite (sndE n G.toGood h1).ptd (trSs_ok IH h2) (trSs_ok IH h3)
      · cases h
    · split at h
      · rename_i c' b' h1 h2
        cases h
        exact psd_whl G.pas (sndE n G.toGood h1).ptd (trSs_ok IH h2)
      · cases h
    · split at h
      · rename_i t' ik ies b' h1 h2 h3
        cases h
        obtain ⟨q1, q2⟩ := trI1_ok (tg := _) G.toGood (fun e e' he => sndE n G.toGood he) h2
        exact psd_for G.pas G.calm q1 (trT_ok G n h1) (trSs_ok IH h3) q2
      · cases h
    · split at h
      · rename_i i h1
        split at h
        · cases h
        · cases h
          exact psd_retv (slotR_ok G h1 _)
      · split at h
        · rename_i hc
          simp only [Bool.and_eq_true] at hc
          rw [Option.map_eq_some_iff] at h
          obtain ⟨d, hd, rfl⟩ := h
          obtain ⟨u, v, q1, q2, q3⟩ := G.cn _ _ hd
          exact psd_ret (pd_cst (pe_glob (G.gl hc.1.2) q1 q2 (okName_d hc.2).1) q3)
        · cases h
    · rw [Option.map_eq_some_iff] at h
      obtain ⟨e', h1, rfl⟩ := h
      exact psd_ret (sndE n G.toGood h1).pd
    · cases h; exact psd_retN
    · cases h; exact psd_brk
    · cases h; exact psd_cnt
    · cases h; exact psd_pas
    · cases h
end
end DL

set_option Elab.async false
set_option linter.all false
set_option maxRecDepth 100000
set_option maxHeartbeats 4000000
namespace DL
open PySem PySem.Spec PyProof.Rows L2

theorem app_un {ss : List Sl} {n i : Nat} {s : Sl} (h : (ss ++ List.replicate n Sl.un)[i]? = some s) (hs : s ≠ .un) : ss[i]? = some s := by
  rw [List.getElem?_append] at h
  split at h
  · exact h
  · rw [List.getElem?_replicate] at h
    split at h
    · cases h; exact absurd rfl hs
    · cases h
theorem RepLoc.longer {K : PySem.W.Frag} {X M : Ad} {σ : L2.St} {H : Hp} {l : Loc} (r : RepLoc tb K X M σ H l) (n : Nat) : RepLoc tb K X M (σ ++ List.replicate n none) H (l ++ List.replicate n .un) :=
  r.sub (by rw [List.length_append, List.length_append, List.length_replicate, List.length_replicate, r.len]) fun i s e n => by
    have h := app_un e n
    exact ⟨h, List.getElem?_append_left (by rw [r.len]; exact (List.getElem?_eq_some_iff.mp h).1)⟩
theorem outs_rep {K : PySem.W.Frag} {X M' : Ad} {σ0 σ' : L2.St} {H' : Hp} {l o : Loc} {vs : List V} {np : Nat} {rf : Option Nat} (hl : vs.length = np) (h0 : ∀ j, j < np → σ0[j]? = (vs.map some)[j]?) (rl : RepLoc tb K X M' σ' H' l) (kp : Keep rf.toList σ0 σ')
    (ho : outsOf l np rf = some o) : RepLoc tb K X M' (vs.map some) H' o ∧ ∀ v s, RepR K X M' σ' l H' v s → RepR K X M' (vs.map some) o H' v s := by
  have key : o.length = np ∧ ∀ (i : Nat) s, o[i]? = some s → s ≠ .un → l[i]? = some s ∧ (vs.map some)[i]? = σ'[i]? := by
    cases rf with
    | none =>
      cases ho
      refine ⟨List.length_replicate, fun i s e n => ?_⟩
      rw [List.getElem?_replicate] at e
      split at e
      · cases e; exact absurd rfl n
      · cases e
    | some j =>
      obtain ⟨z, e, ho⟩ : ∃ z, l[j]? = some z ∧ (List.replicate np Sl.un).set j z = o := by
        unfold outsOf at ho
        dsimp only at ho
        split at ho <;> cases ho <;> exact ⟨_, by assumption, rfl⟩
      subst ho
      refine ⟨by rw [List.length_set, List.length_replicate], fun i s q n => ?_⟩
      rw [List.getElem?_set] at q
      split at q
      · rename_i hij
        subst hij
        split at q
        · rename_i hlt
          rw [List.length_replicate] at hlt
          cases q
          exact ⟨e, by rw [← h0 j hlt]; exact (kp j (by simp)).symm⟩
        · cases q
      · rw [List.getElem?_replicate] at q
        split at q
        · cases q; exact absurd rfl n
        · cases q
  exact ⟨rl.sub (by rw [List.length_map, hl, key.1]) key.2, fun v s h => RepR.mk h.toS fun a ha z => h.sep ha (z.sub key.2)⟩

/-- what a table of names says of the program behind the top -/
structure Tab (P : Program) (w : World) (K : PySem.W.Frag) (mg : Str → Option Value) (base : Heap) (T : TC) (Γ : Gam) (xi : XI) (k : Nat) : Prop where
  fn : ∀ x fi, T.fn x = some fi → ∃ (f : Addr) (fd : FuncData) (ps : List Str), mg x = some (.ref f) ∧ PySem.W.keepIn K (.ref f) = true ∧ FnOk P w K mg base (L2.CX P w) k f fd ps (spOf K xi ps.length fi.rf (Γ fi.ix)) ∧
    ∀ sh ∈ fi.sh, ShapeOk K fd ps sh ∧ sh.pm.length = ps.length
  cn : ∀ x d, T.cn x = some d → ∃ u v, mg x = some u ∧ RelV v u ∧ ∀ F H, Rep K F H v d
  bl : ∀ x ∈ T.bl, mg x = none

theorem fnD {P : Program} {w : World} {K : PySem.W.Frag} {mg : Str → Option Value} {base : Heap} {T : TC} {Γ : Gam} {xi : XI} {k : Nat} {x qual : Str} {st : Stmt} {f : Addr} {fd : FuncData} {ps : List Str} {rf : Option Nat} {n m : Nat} {body : List S}
    (F : Fun K x qual st f fd) (S : FnScope T.N ps (defScope st)) (hsc : T.names = (defScope st).names) (tb : Tab P w K mg base T Γ xi k) (hgd : T.gd = 6) (hcode : ∃ c P', fd.code = .ref c ∧ GxR.TabB base mg c P' ∧ xi.tb P') (tr : trSs (trS T rf.toList n m) (defBody st) = some body) :
    FnOk P w K mg base (L2.CX P w) (k + 6 + 1) f fd ps (spOf K xi ps.length rf (runF Γ ⟨ps.length, T.N.length, rf, body⟩)) := by
  obtain ⟨oc, od, kV, doc, pm, an, cdv, ct, osl, rfl, lk, hcd⟩ := F.ex
  obtain ⟨cc, P', hc1, hc2, hc3⟩ := hcode
  have hc1 : cdv = .ref cc := hc1
  refine fn_of lk hcd S (fun vs H Q E h => h.choose_spec.choose_spec.choose_spec.1) fun A outer s H vs Q E hr hsp => ?_
  have G : GoodS (cxOf (L2.CX P w) P w K mg base T.N qual (defScope st) f cdv A outer s H E) T Γ (fun cls d _ H => E cls d H) xi k := by
    refine { N := rfl, sc := hsc.symm, calm := rfl, rm := by rw [hgd]; exact hr, tabs := .inr ⟨hgd, cc, P', hc1, hc2, hc3⟩, tk := takes_of rfl rfl rfl rfl, fn := fun y fi h => ⟨tb.fn y fi h⟩, cn := tb.cn, bl := tb.bl, nd := S.nd, hfn := fun _ _ => .inl rfl, pas := passes_of rfl, kind := S.kind }
  have hb := trSs_ok (pr := rf.toList) (fun s s' h => sndS G n m h) tr
  obtain ⟨t, ht, q⟩ := hb.ex
  refine ⟨t, ht, ?_⟩
  obtain ⟨Xs, M, ss, hl, rl, hM, hown, hF⟩ := hsp
  have hss : ss.length = ps.length := by rw [← rl.len, List.length_map, hl]
  have st0 : L2.start T.N vs = vs.map some ++ List.replicate (T.N.length - ps.length) none := by unfold L2.start; rw [hl]
  rw [st0]
  have h0 : ∀ j, j < ps.length → (vs.map some ++ List.replicate (T.N.length - ps.length) none)[j]? = (vs.map some)[j]? := fun j hj => by
    rw [List.getElem?_append_left (by rw [List.length_map, hl]; exact hj)]
  refine q Xs _ H (ss ++ List.replicate (T.N.length - ps.length) Sl.un) M _ (rl.longer (T.N.length - ps.length)) ?_
  unfold runF at hF
  rw [if_pos hss] at hF
  dsimp only at hF
  cases e : exB Γ body (ss ++ List.replicate (T.N.length - ps.length) Sl.un) with
  | bad => rw [e] at hF; exact hF
  | exc y l => rw [e] at hF; exact fun cls d σ' M' H' s2 rl2 kp hx => hF cls d M' H' s2 hx
  | ok r =>
    obtain ⟨fl, l⟩ := r
    rw [e] at hF
    cases fl with
    | nx =>
      dsimp only at hF
      cases eo : outsOf l ps.length rf with
      | none => rw [eo] at hF; exact hF.elim
      | some o =>
        rw [eo] at hF
        intro σ' M' H' s2 rl2 kp
        obtain ⟨g1, g2⟩ := outs_rep hl h0 rl2 kp eo
        exact hF .non M' H' s2 g1 (show Rep K (Fb Xs M') H' .non .non from Rep.non)
    | ret s =>
      dsimp only at hF
      cases eo : outsOf l ps.length rf with
      | none => rw [eo] at hF; exact hF.elim
      | some o =>
        rw [eo] at hF
        intro v σ' M' H' s2 rl2 kp rv
        obtain ⟨g1, g2⟩ := outs_rep hl h0 rl2 kp eo
        exact hF v M' H' s2 g1 (g2 v s rv)
    | brk => exact hF.elim
    | cnt => exact hF.elim
end DL

set_option Elab.async false
set_option linter.all false
set_option maxRecDepth 100000
set_option maxHeartbeats 4000000
namespace DL
open PySem PySem.Spec PyProof.Rows L2

/-! ## a whole text -/
structure DefI where
  name : Str
  st : Stmt
  ps : List Str
  N : List Str
  rf : Option Nat
  sh : List Shape
  body : List S
  mu : List Nat
  nu : List Nat := []
  ny : List Nat := []
  nr : Bool := false
  nk : List Nat := []
def DefI.fd (d : DefI) : FD := ⟨d.ps.length, d.N.length, d.rf, d.body⟩
def fnFrom : Nat → List DefI → Str → Option FnI
  | _, [], _ => none
  | i, d :: ds, x => if d.name == x then some ⟨i, d.rf, d.sh⟩ else fnFrom (i + 1) ds x
def tcOf (ds : List DefI) (cn : List (Str × D)) (bl : List Str) (d : DefI) : TC := ⟨d.N, (defScope d.st).names, fnFrom 0 ds, fun x => cn.lookup x, bl, 6, d.mu, d.nu, d.ny, d.nr, d.nk⟩
def progOf (ds : List DefI) (i : Nat) : Option FD := ds[i]?.map DefI.fd
structure DefTr (ds : List DefI) (cn : List (Str × D)) (bl : List Str) (d : DefI) : Prop where
  sc : FnScope d.N d.ps (defScope d.st)
  pm : ∀ sh ∈ d.sh, sh.pm.length = d.ps.length
  tr : trSs (trS (tcOf ds cn bl d) d.rf.toList 60 60) (defBody d.st) = some d.body
abbrev CodeAt (base : Heap) (mg : Str → Option Value) (tb : Ad) (fd : FuncData) : Prop := ∃ c P', fd.code = .ref c ∧ GxR.TabB base mg c P' ∧ tb P'
structure DefAt (K : PySem.W.Frag) (mg : Str → Option Value) (base : Heap) (tb : Ad) (d : DefI) : Prop where
  ex : ∃ (f : Addr) (fd : FuncData), Fun K d.name d.name d.st f fd ∧ mg d.name = some (.ref f) ∧ (∀ sh ∈ d.sh, ShapeOk K fd d.ps sh) ∧ CodeAt base mg tb fd
theorem shape_of {K : PySem.W.Frag} {x qual : Str} {st : Stmt} {f : Addr} {fd : FuncData} {ps : List Str} {sh : Shape} (F : Fun K x qual st f fd)
    (h : ∀ (kV doc pm : Value) (an : Option Addr) (cdv ct : Value) (s : Shared) (us ws : List Value), us.length = sh.n → ws.length = sh.ks.length →
      BindsTo s (PySem.W.fnOf x qual (defArgs st) (defBody st) (defScope st) .none kV doc pm an cdv ct) ⟨us, sh.ks.zip ws⟩ (ps.zip (gather sh.pm (us ++ ws)))) : ShapeOk K fd ps sh := by
  obtain ⟨oc, od, kV, doc, pm, an, cdv, ct, osl, rfl, lk, hcd⟩ := F.ex
  exact fun s us ws _ h1 h2 => h kV doc pm an cdv ct s us ws h1 h2
theorem fnFrom_some : ∀ {ds : List DefI} {i : Nat} {x : Str} {fi : FnI}, fnFrom i ds x = some fi → ∃ (j : Nat) (d : DefI), ds[j]? = some d ∧ d.name = x ∧ fi = ⟨i + j, d.rf, d.sh⟩
  | [], i, x, fi, h => by unfold fnFrom at h; cases h
  | d :: ds, i, x, fi, h => by
    unfold fnFrom at h
    split at h
    · rename_i hx
      cases h
      exact ⟨0, d, rfl, eq_of_beq hx, rfl⟩
    · obtain ⟨j, d', h1, h2, h3⟩ := fnFrom_some h
      exact ⟨j + 1, d', h1, h2, by rw [h3, show i + 1 + j = i + (j + 1) by omega]⟩
section
variable {P : Program} {w : World} {K : PySem.W.Frag} {mg : Str → Option Value} {base : Heap} {xi : XI} {ds : List DefI} {cn : List (Str × D)} {bl : List Str}
theorem prog_ok (hA : ∀ d ∈ ds, DefAt K mg base xi.tb d) (hT : ∀ d ∈ ds, DefTr ds cn bl d) (hc : ∀ x d, cn.lookup x = some d → ∃ u v, mg x = some u ∧ RelV v u ∧ ∀ F H, Rep K F H v d) (hb : ∀ x ∈ bl, mg x = none) :
    ∀ (n i : Nat) (d : DefI), ds[i]? = some d → ∀ (f : Addr) (fd : FuncData), Fun K d.name d.name d.st f fd → CodeAt base mg xi.tb fd → FnOk P w K mg base (L2.CX P w) (7 * n) f fd d.ps (spOf K xi d.ps.length d.rf (callF (progOf ds) n i)) := by
  intro n
  induction n with
  | zero =>
    intro i d hi f fd F hcd
    have no : ∀ vs H Q E, ¬ spOf K xi d.ps.length d.rf (callF (progOf ds) 0 i) vs H Q E := fun vs H Q E h => by
      obtain ⟨X, M, ss, _, _, _, _, h⟩ := h
      rw [callF.eq_def] at h
      exact h
    exact ⟨fun vs H Q E h => (no _ _ _ _ h).elim, fun A outer s H args us vs Q E _ _ _ _ h => (no _ _ _ _ h).elim⟩
  | succ n ih =>
    intro i d hi f fd F hcd
    have hm := List.mem_of_getElem? hi
    have t := hT d hm
    have tb : Tab P w K mg base (tcOf ds cn bl d) (callF (progOf ds) n) xi (7 * n) := by
      refine ⟨fun x fi h => ?_, hc, hb⟩
      obtain ⟨j, d', h1, h2, h3⟩ := fnFrom_some h
      have hm' := List.mem_of_getElem? h1
      obtain ⟨f', fd', F', m', s', c'⟩ := (hA d' hm').ex
      have t' := hT d' hm'
      subst h3
      rw [Nat.zero_add]
      exact ⟨f', fd', d'.ps, by rw [← h2]; exact m', F'.kp, ih j d' h1 f' fd' F' c', fun sh hs => ⟨s' sh hs, t'.pm sh hs⟩⟩
    have q := fnD (T := tcOf ds cn bl d) (rf := d.rf) F t.sc rfl tb rfl hcd t.tr
    have e : callF (progOf ds) (n + 1) i = runF (callF (progOf ds) n) d.fd := by
      funext args
      rw [callF.eq_def]
      dsimp only
      unfold progOf
      rw [hi]
      rfl
    rw [e, Nat.mul_succ]
    exact q
end
/-- no exception -/
def xi0 : XI := ⟨fun _ _ _ _ => False, fun _ => False⟩
theorem repL_ints {K : PySem.W.Frag} {F : Ad} {H : Hp} : ∀ ns : List Int, RepL K F H (ns.map V.int) (ns.map D.int)
  | [] => RepL.nil
  | n :: ns => RepL.cons (by rw [Rep]) (repL_ints ns)
def xiT (tb : Ad) : XI := ⟨fun _ _ _ _ => False, tb⟩
theorem law_sp {K : PySem.W.Frag} {H : Hp} {a : Addr} {tb : Ad} {ns : List Int} {F : List Sl → R (Sl × List Sl)} {o : List Sl} (ht : ∀ P, tb P → GxR.TabG H P) (hS : SqL K H a (ns.map V.int)) (h : F [.val (.lst (ns.map D.int))] = .ok (.val (.bl true), o)) (ho : o = [.un]) :
    spOf K (xiT tb) 1 none F [.ref a] H (fun v _ => v = .bl true) (fun _ _ _ => False) := by
  subst ho
  have r : Rep K (Fb (fun _ => False) (fun _ => False)) H (.ref a) (.lst (ns.map D.int)) := by
    rw [Rep]
    refine ⟨a, ns.map V.int, rfl, ?_, repL_ints ns⟩
    rcases hS with h | ⟨o, h⟩
    · exact .inl ⟨h, fun z => z.elim id id⟩
    · exact .inr ⟨o, h⟩
  have at0 : ∀ (i : Nat) (s : Sl), ([Sl.val (.lst (ns.map D.int))] : List Sl)[i]? = some s → i = 0 ∧ s = .val (.lst (ns.map D.int)) := fun i s e => by
    match i, e with
    | 0, e => cases e; exact ⟨rfl, rfl⟩
    | i + 1, e => simp at e
  refine ⟨fun _ => False, fun _ => False, [.val (.lst (ns.map D.int))], rfl, ⟨rfl, fun i s e n => ?_, fun i j a s t v w e1 _ _ _ o _ => ?_, fun _ z => z.elim False.elim False.elim, fun _ z => z.elim, ht⟩, fun _ z => z.elim, fun i s e hs => ?_, ?_⟩
  · obtain ⟨rfl, rfl⟩ := at0 i s e
    exact ⟨.ref a, rfl, r⟩
  · obtain ⟨rfl, rfl⟩ := at0 i s e1
    exact o.elim
  · obtain ⟨rfl, rfl⟩ := at0 i s e
    cases hs
  · rw [h]
    intro v M' H' _ _ rv
    have rv : Rep K (Fb (fun _ => False) M') H' v (.bl true) := rv
    rw [Rep] at rv
    exact rv
theorem cx_none {P : Program} {w : World} {outer : List Env} {H : Hp} {s : Shared} {e : Value} {s' : Shared} (h : L2.CX P w outer H s (fun _ _ _ => False) e s') : False := by
  obtain ⟨_, _, _, _, _, _, _, _, _, _, _, _, z⟩ := h
  exact z
theorem cns_ok {cn : List (Str × D)} {Q : Str → D → Prop} (h : ∀ p ∈ cn, Q p.1 p.2) : ∀ x d, cn.lookup x = some d → Q x d := by
  intro x d e
  induction cn with
  | nil => cases e
  | cons p cn ih =>
    rw [List.lookup_cons] at e
    split at e
    · rename_i hx
      cases e
      have := eq_of_beq hx
      rw [this]
      exact h p List.mem_cons_self
    · exact ih (fun q hq => h q (List.mem_cons_of_mem _ hq)) e
end DL

set_option Elab.async false
set_option linter.all false
set_option maxRecDepth 100000
set_option maxHeartbeats 4000000
namespace DL
open PySem PySem.Spec PyProof.Rows L2

/-! ## a law's end: facts of the head -/
def repB (K : PySem.W.Frag) : Nat → Value → D → Bool
  | 0, _, _ => false
  | n + 1, u, d => match u, d with
    | .none, .non => true
    | .bool b, .bl c => b == c
    | .int i _, .int j => decide (i = j)
    | .str x _, .str y => decide (x = y)
    | .ref a, .tup ds => (match K.lookup a with
      | some ⟨.type c, _, .seq its _, _⟩ => decide (c = "tuple") && (decide (its.size ≤ sizeLine) && (decide (its.toList.length = ds.length) && (its.toList.zip ds).all fun p => repB K n p.1 p.2))
      | _ => false)
    | _, _ => false
theorem repBs_ok {K : PySem.W.Frag} {g : Value → D → Bool} (h : ∀ u d, g u d = true → ∃ v, RelV v u ∧ ∀ F H, Rep K F H v d) : ∀ {us : List Value} {ds : List D}, us.length = ds.length → ((us.zip ds).all fun p => g p.1 p.2) = true → ∃ vs, Vals vs us ∧ ∀ F H, RepL K F H vs ds
  | [], [], _, _ => ⟨[], .nil, fun _ _ => RepL.nil⟩
  | u :: us, d :: ds, hl, ha => by
    rw [List.zip_cons_cons, List.all_cons, Bool.and_eq_true] at ha
    obtain ⟨v, h1, h2⟩ := h u d ha.1
    obtain ⟨vs, h3, h4⟩ := repBs_ok h (by simpa using hl) ha.2
    exact ⟨v :: vs, .cons h1 h3, fun F H => RepL.cons (h2 F H) (h4 F H)⟩
theorem repB_ok {K : PySem.W.Frag} : ∀ (n : Nat) (u : Value) (d : D), repB K n u d = true → ∃ v, RelV v u ∧ ∀ F H, Rep K F H v d := by
  intro n
  induction n with
  | zero => intro u d h; cases h
  | succ n ih =>
    intro u d h
    unfold repB at h
    split at h
    · exact ⟨.non, rfl, fun _ _ => Rep.non⟩
    · have := eq_of_beq h
      subst this
      exact ⟨.bl _, rfl, fun _ _ => Rep.bl _⟩
    · rename_i i t j
      have := of_decide_eq_true h
      subst this
      exact ⟨.int i, ⟨t, rfl⟩, fun _ _ => Rep.int _⟩
    · rename_i x t y
      have := of_decide_eq_true h
      subst this
      exact ⟨.str x, ⟨t, rfl⟩, fun _ _ => Rep.str _⟩
    · rename_i a ds
      cases q : K.lookup a with
      | none => rw [q] at h; cases h
      | some o =>
        obtain ⟨oc, od, dt, osl⟩ := o
        rw [q] at h
        split at h
        · rename_i c od' its m sl e
          cases e
          simp only [Bool.and_eq_true, decide_eq_true_eq] at h
          obtain ⟨h1, h2, h3, h4⟩ := h
          obtain ⟨vs, r, z⟩ := repBs_ok ih h3 h4
          exact ⟨.ref a, rfl, fun F H => Rep.tup (.inr ⟨_, its, m, q, congrArg Value.type h1, rfl, h2, r⟩) (z F H)⟩
        · cases h
    · cases h
def cnB (cn : List (Str × D)) (K : PySem.W.Frag) : Bool := cn.all fun p => match PySem.W.nsIn K mainGlobals p.1 with
  | some (some u) => repB K 12 u p.2
  | _ => false
def DefI.defD (d : DefI) : He.DefD := ⟨(d.name, none), d.name, d.name, defArgs d.st, defBody d.st, defScope d.st, [], []⟩
def faOf (ds : List DefI) (bl : List Str) : List He.Fa := (ds.map fun d => He.Fa.glo d.name) ++ bl.map He.Fa.free
def fnOf' (ds : List DefI) : List He.DefD := ds.map DefI.defD
def tfOf (ds : List DefI) : List He.Defn := ds.map fun d => (d.name, none)
abbrev hkOf (n : Nat) (ds : List DefI) (cn : List (Str × D)) (bl : List Str) : PySem.W.Hook := He.hookX n (faOf ds bl) (fnOf' ds) [] (tfOf ds) (cnB cn)
def obOf (n : Nat) (ds : List DefI) (cn : List (Str × D)) (bl : List Str) (s : PySem.W.SharedT) : He.AlX := He.obsX n (faOf ds bl) (fnOf' ds) [] (tfOf ds) (cnB cn) (HandSHeadRun.getT s)
theorem obOf_eq (n : Nat) (ds : List DefI) (cn : List (Str × D)) (bl : List Str) (s : PySem.W.SharedT) : obOf n ds cn bl s = (hkOf n ds cn bl).obs s.abs := He.obsX_eq (HandSHeadRun.getT_eq s)
/-- the shapes in which a def is called fit it -/
def ShOk (d : DefI) : Prop := ∀ {K : PySem.W.Frag} {f : Addr} {fd : FuncData}, Fun K d.name d.name d.st f fd → ∀ sh ∈ d.sh, ShapeOk K fd d.ps sh
theorem fun_ofD {K : PySem.W.Frag} {x qual : Str} {st : Stmt} {f : Addr} {fd : FuncData} (F : FunD K x qual (defArgs st) (defBody st) (defScope st) [] [] f fd) : Fun K x qual st f fd := by
  obtain ⟨oc, od, dV, kV, doc, pm, an, cdv, ct, osl, h1, h2, h3, h4, _⟩ := F.ex
  rcases h4 with ⟨_, rfl⟩ | ⟨e, _⟩
  · exact ⟨⟨oc, od, kV, doc, pm, an, cdv, ct, osl, h1, h2, h3⟩, F.kp⟩
  · exact absurd rfl e
theorem law_at {l : PySem.W.OpenLaw} {w : World} {K : PySem.W.Frag} {h : Heap} {mg : Str → Option Value} {fa : Addr} {ds : List DefI} {cn : List (Str × D)} {bl : List Str} (hT : ∀ d ∈ ds, DefTr ds cn bl d) (hS : ∀ d ∈ ds, ShOk d)
    (X : K.In h) (G : h.Ns mainGlobals mg) (c : He.SaysX (faOf ds bl) (fnOf' ds) [] (tfOf ds) (cnB cn) w h K) {i N n : Nat} {d : DefI} (hi : ds[i]? = some d) (hfa : mg d.name = some (.ref fa)) (hps : d.ps = [("script" : Str)])
    (hb : ∀ {fd : FuncData}, Fun K d.name d.name d.st fa fd → ∀ (s : Shared) (u : Value), BindsTo s fd ⟨[u], []⟩ [("script", u)])
    (hl : ∀ ns : List Int, ns.length ≤ n → (∀ z ∈ ns, Builtin.Int.intBits z ≤ 1048576) → callF (progOf ds) N i [.val (.lst (ns.map D.int))] = .ok (.val (.bl true), [.un])) (hrf : d.rf = none) :
    LamX.LawAtS l w K (L2.CX l.prog w) (7 * N) n "script" mg fa h := by
  have glo : ∀ e ∈ ds, mg e.name = some (.ref (He.ga K e.name)) := fun e he => He.glo_ok X G (c.t.d.facts (f := .glo e.name) (List.mem_append_left _ (List.mem_map.mpr ⟨e, he, rfl⟩)))
  have fn : ∀ e ∈ ds, ∃ fd, Fun K e.name e.name e.st (He.ga K e.name) fd ∧ fd.code = .ref (He.cT K (e.name, none)).1 := fun e he => by
    obtain ⟨fd, F⟩ := c.t.d.defs (d := e.defD) (List.mem_map.mpr ⟨e, he, rfl⟩)
    have F' := fun_ofD F
    obtain ⟨oc, od, kV, doc, pm, an, cdv, ct, osl, h1, h2, h3⟩ := F'.ex
    obtain ⟨cc, hc⟩ := He.codeIn_ref h3
    refine ⟨fd, F', ?_⟩
    have hcode : fd.code = .ref cc := by rw [h1]; exact hc
    rw [hcode]
    exact congrArg Value.ref (He.codeOf_eq (p := (e.name, none)) h2 hcode).symm
  have hbl : ∀ x ∈ bl, mg x = none := fun x hx => He.free_ok X G (c.t.d.facts (f := .free x) (List.mem_append_right _ (List.mem_map.mpr ⟨x, hx, rfl⟩)))
  have hcn : ∀ x v, cn.lookup x = some v → ∃ u v', mg x = some u ∧ RelV v' u ∧ ∀ F H, Rep K F H v' v := by
    refine cns_ok fun p hp => ?_
    have z := List.all_eq_true.mp (show (cn.all fun p => match PySem.W.nsIn K mainGlobals p.1 with
      | some (some u) => repB K 12 u p.2
      | _ => false) = true from c.more) p hp
    split at z
    · rename_i u e
      obtain ⟨v, q1, q2⟩ := repB_ok _ _ _ z
      exact ⟨u, v, PySem.W.mg_of X G e, q1, q2⟩
    · cases z
  have hd := List.mem_of_getElem? hi
  have eq : fa = He.ga K d.name := by
    have := hfa.symm.trans (glo d hd)
    cases this
    rfl
  subst eq
  obtain ⟨fd, F, hcd⟩ := fn d hd
  have memT : ∀ e ∈ ds, He.cT K (e.name, none) ∈ (tfOf ds).map (He.cT K) := fun e he => List.mem_map.mpr ⟨_, List.mem_map.mpr ⟨e, he, rfl⟩, rfl⟩
  have ofT : ∀ p ∈ (tfOf ds).map (He.cT K), ∃ q ∈ tfOf ds, He.cT K q = p := fun p hp => List.mem_map.mp hp
  let tb : Ad := fun P => ∃ p ∈ (tfOf ds).map (He.cT K), p.2 = P
  refine ⟨fd, (tfOf ds).map (He.cT K), spOf K (xiT tb) 1 none (callF (progOf ds) N i), fun p hp => ?_, fun p hp => ?_, fun p hp => ?_, hb F, fun H a ns hn hz ht hq => ?_, fun base Xb Gb TB => ?_⟩
  · obtain ⟨q, hq, rfl⟩ := ofT p hp
    exact c.empty q hq
  · obtain ⟨q, hq, rfl⟩ := ofT p hp
    exact c.out q hq
  · obtain ⟨q, hq, rfl⟩ := ofT p hp
    exact PySem.W.codeHd_of_K X (c.hd q hq)
  · refine law_sp (fun P z => ?_) hq (hl ns hn hz) rfl
    obtain ⟨p, hp, rfl⟩ := z
    exact ⟨#[], ht p hp, by first | trivial | exact .nil | constructor⟩
  · have tg : ∀ {c P'}, LamX.TabB base mg c P' → GxR.TabB base mg c P' := fun t => ⟨t.code, t.bm, t.gP⟩
    have hA : ∀ e ∈ ds, DefAt K mg base (xiT tb).tb e := fun e he => by
      obtain ⟨fd', F', hc'⟩ := fn e he
      exact ⟨_, fd', F', glo e he, hS e he F', _, _, hc', tg (TB _ (memT e he)), _, memT e he, rfl⟩
    have := prog_ok (w := w) (P := l.prog) (xi := xiT tb) hA hT hcn hbl N i d hi _ fd F ⟨_, _, hcd, tg (TB _ (memT d hd)), _, memT d hd, rfl⟩
    rw [hps, hrf] at this
    exact this
end DL
namespace DL
open PySem PySem.Spec PyProof.Rows L2
theorem law_bind {K : PySem.W.Frag} {x qual : Str} {st : Stmt} {f : Addr} {fd : FuncData} (F : Fun K x qual st f fd)
    (h : ∀ (kV doc pm : Value) (an : Option Addr) (cdv ct : Value) (s : Shared) (u : Value), BindsTo s (PySem.W.fnOf x qual (defArgs st) (defBody st) (defScope st) .none kV doc pm an cdv ct) ⟨[u], []⟩ [("script", u)]) (s : Shared) (u : Value) : BindsTo s fd ⟨[u], []⟩ [("script", u)] := by
  obtain ⟨oc, od, kV, doc, pm, an, cdv, ct, osl, rfl, lk, hcd⟩ := F.ex
  exact h kV doc pm an cdv ct s u
end DL

set_option Elab.async false
set_option linter.all false
set_option maxRecDepth 100000
set_option maxHeartbeats 4000000
namespace K13
open PySem PySem.Spec PyProof.Rows L2
def topS (i : Nat) : Stmt := PySem.Challenge.pw_ringsigns_k13_rings_by_own.main.body.getD i (.Pass ⟨0, 0, 0, 0⟩)
/-- leaving(web, rows, pipe, place, start, end) -/
def b0 : List DL.S := [.set 1 (.ncm (.pack false []) (.name 3) 1 [.prim .ix [.var 0, .cst (.int 0)]] [] [3]), .fer (.tup [.name 2, .tup [.name 4, .name 5]]) 4 [.prim .ix [.var 0, .cst (.int 1)]] [.nap 1 (.var 4) (.pack true [.var 2, .cst (.int 1), .var 5]), .nap 1 (.var 5) (.pack true [.var 2, .prim .neg [.cst (.int 1)], .var 4])], .ret (.frz 1)]
/-- values_by(many, steps, row, pipe, turn) -/
def b1 : List DL.S := [.set 2 (.prim .mul [.pack false [.cst (.int 0)], .var 0]), .fer (.tup [.name 3, .name 4]) 0 [.var 1] [.setix 2 (.var 3) (.var 4)], .ret (.prim .tup [.var 2])]
/-- ways_among(web, start, goal, let, rows, found, open_ways, steps, met, pipe, turn, far, longer_way) -/
def b2 : List DL.S := [.set 4 (.call 0 none [0] [.var 0]), .set 5 (.pack false []), .set 6 (.pack false [.pack true [.pack true [], .pack true [.var 1]]]), .whl (.var 6) [.asg (.tup [.name 7, .name 8]) (.mth .pop 6 []), .fer (.tup [.name 9, .name 10, .name 11]) 0 [.prim .ix [.var 4, .prim .ix [.var 8, .prim .neg [.cst (.int 1)]]]] [.ite (.and (.prim .ix [.var 3, .var 9]) (.prim .notin [.var 11, .var 8])) [.set 12 (.prim .add [.var 7, .pack true [.pack true [.var 9, .var 10]]]), .ite (.prim .eq [.var 11, .var 2]) [.app 5 (.var 12)] [.app 6 (.pack true [.var 12, .prim .add [.var 8, .pack true [.var 11]]])]] []]], .ret (.prim .srt [.var 5])]
/-- rings(web, found, pipe, let, steps, start, end, other) -/
def b3 : List DL.S := [.set 1 (.pack false []), .fer (.tup [.name 2, .tup [.name 5, .name 6]]) 4 [.prim .ix [.var 0, .cst (.int 1)]] [.set 3 (.comp (.prim .gt [.var 7, .var 2]) (.name 7) 1 [.prim .len [.prim .ix [.var 0, .cst (.int 1)]]] [] [7]), .fer (.name 4) 0 [.call 2 none [0, 1, 2, 3] [.var 0, .var 6, .var 5, .var 3]] [.app 1 (.prim .add [.pack true [.pack true [.var 2, .cst (.int 1)]], .var 4])]], .ret (.prim .tup [.var 1])]
/-- through(web, pipe, many, let, found, start, end, other, steps) -/
def b4 : List DL.S := [.set 2 (.prim .len [.prim .ix [.var 0, .cst (.int 1)]]), .asg (.tup [.name 5, .name 6]) (.prim .ix [.prim .ix [.var 0, .cst (.int 1)], .var 1]), .set 3 (.comp (.prim .ne [.var 7, .var 1]) (.name 7) 1 [.var 2] [] [7]), .set 4 (.comp (.call 1 none [0, 1] [.var 2, .prim .add [.pack true [.pack true [.var 1, .cst (.int 1)]], .var 8]]) (.name 8) 0 [.call 2 none [0, 1, 2, 3] [.var 0, .var 6, .var 5, .var 3]] [] [8]), .ret (.prim .tup [.prim .srt [.var 4]])]
/-- _law_bag(script, cells, great, cell) -/
def b5 : List DL.S := [.set 1 (.prim .add [.comp (.prim .abs [.prim .int [.var 3]]) (.name 3) 0 [.var 0] [] [3], .pack false [.cst (.int 7)]]), .set 2 (.pack false []), .ite (.prim .eq [.prim .mod [.prim .int [.prim .ix [.var 1, .cst (.int 0)]], .cst (.int 2)], .cst (.int 0)]) [.set 2 (.comp (.prim .fdiv [.var 3, .cst (.int 2)]) (.name 3) 0 [.var 1] [.prim .ge [.var 3, .prim .pow [.cst (.int 10), .cst (.int 18)]]] [3]), .ex (.mth .rev 2 [])] [], .ret (.npa [2] [.cst (.int 0), .cst (.int 0), .mov 2, .comp (.prim .mod [.prim .int [.var 3], .cst (.int 2147483647)]) (.name 3) 0 [.var 1] [] [3]])]
/-- _law_draw(bag, many, cell, mixed, digit) * -/
def b6 : List DL.S := [.nsx 0 (.cst (.int 1)) (.prim .add [.nit 0 (.cst (.int 1)), .cst (.int 1)]), .ite (.and (.prim .eq [.nit 0 (.cst (.int 0)), .cst (.int 0)]) (.prim .gt [.npk .len 0 (.cst (.int 2)), .cst (.int 0)])) [.nsx 0 (.cst (.int 0)) (.nmt .pop 0 (.cst (.int 2)) [])] [], .ite (.prim .gt [.nit 0 (.cst (.int 0)), .cst (.int 0)]) [.set 4 (.prim .mod [.npk .int 0 (.cst (.int 0)), .var 1]), .nsx 0 (.cst (.int 0)) (.prim .fdiv [.nit 0 (.cst (.int 0)), .var 1]), .retv 4] [], .set 2 (.prim .ix [.nit 0 (.cst (.int 3)), .prim .mod [.npk .int 0 (.cst (.int 1)), .npk .len 0 (.cst (.int 3))]]), .set 3 (.prim .mod [.prim .int [.prim .add [.prim .add [.prim .mul [.var 2, .cst (.int 48271)], .prim .mul [.nit 0 (.cst (.int 1)), .cst (.int 69621)]], .cst (.int 1)]], .cst (.int 2147483647)]), .ret (.prim .mod [.prim .fdiv [.prim .mod [.prim .int [.prim .add [.prim .add [.prim .mul [.var 3, .var 3], .prim .mul [.var 3, .cst (.int 16807)]], .prim .mul [.nit 0 (.cst (.int 1)), .cst (.int 40014)]]], .cst (.int 2147483629)], .cst (.int 32)], .var 1])]
/-- _law_some(bag, things, many, left, made, k) * -/
def b7 : List DL.S := [.set 3 (.prim .lst [.var 1]), .set 4 (.pack false []), .fer (.name 5) 1 [.var 2] [.app 4 (.mth .popAt 3 [.call 6 (some 0) [0, 1] [.var 0, .prim .len [.var 3]]])], .retv 4]
/-- _law_same(found, due, k) -/
def b8 : List DL.S := [.ite (.prim .iz [.var 1, .cst .non]) [.ret (.prim .iz [.var 0, .cst .non])] [], .ite (.or (.prim (.ist 1) [.var 1]) (.prim (.ist 1) [.var 0])) [.ret (.and (.prim (.ist 1) [.var 1]) (.and (.prim (.ist 1) [.var 0]) (.prim .eq [.var 0, .var 1])))] [], .ite (.prim (.ist 0) [.var 1]) [.ret (.and (.prim (.ist 0) [.var 0]) (.prim .eq [.var 0, .var 1]))] [], .ite (.prim (.ist 2) [.var 1]) [.ret (.and (.prim (.ist 2) [.var 0]) (.prim .eq [.var 0, .var 1]))] [], .ite (.or (.not (.prim (.ist 3) [.var 1])) (.or (.not (.prim (.ist 3) [.var 0])) (.prim .ne [.prim .len [.var 0], .prim .len [.var 1]]))) [.ret (.cst (.bl false))] [], .fer (.name 2) 1 [.prim .len [.var 1]] [.ite (.not (.call 8 none [0, 1] [.prim .ix [.var 0, .var 2], .prim .ix [.var 1, .var 2]])) [.ret (.cst (.bl false))] []], .ret (.cst (.bl true))]
/-- _law_web(bag, places, more, pipes, k, names, made, start, one, other, ends) * -/
def b9 : List DL.S := [.set 3 (.comp (.pack true [.call 6 (some 0) [0, 1] [.var 0, .var 4], .var 4]) (.name 4) 2 [.cst (.int 1), .var 1] [] [4]), .fer (.name 4) 1 [.ite (.prim .gt [.var 1, .cst (.int 1)]) (.var 2) (.cst (.int 0))] [.set 7 (.call 6 (some 0) [0, 1] [.var 0, .var 1]), .app 3 (.pack true [.var 7, .prim .mod [.prim .int [.prim .add [.prim .add [.var 7, .cst (.int 1)], .call 6 (some 0) [0, 1] [.var 0, .prim .sub [.var 1, .cst (.int 1)]]]], .var 1]])], .set 5 (.call 7 (some 0) [0, 1, 2] [.var 0, .prim .rgl [.var 1], .var 1]), .set 6 (.pack false []), .fer (.tup [.name 8, .name 9]) 0 [.call 7 (some 0) [0, 1, 2] [.var 0, .var 3, .prim .len [.var 3]]] [.set 10 (.pack true [.prim .ix [.var 5, .var 8], .prim .ix [.var 5, .var 9]]), .app 6 (.ite (.prim .eq [.call 6 (some 0) [0, 1] [.var 0, .cst (.int 2)], .cst (.int 0)]) (.var 10) (.prim .rev [.var 10]))], .ret (.pack true [.var 1, .prim .tup [.var 6]])]
/-- _law_drawn_web(bag, way, places) * -/
def b10 : List DL.S := [.set 1 (.call 6 (some 0) [0, 1] [.var 0, .cst (.int 8)]), .ite (.prim .eq [.var 1, .cst (.int 0)]) [.set 2 (.prim .sub [.cst (.int 12), .call 6 (some 0) [0, 1] [.var 0, .cst (.int 3)]]), .ret (.ite (.prim .gt [.var 2, .cst (.int 11)]) (.call 9 (some 0) [0, 1, 2] [.var 0, .var 2, .prim .sub [.prim .add [.prim .sub [.cst (.int 20), .var 2], .cst (.int 1)], .call 6 (some 0) [0, 1] [.var 0, .cst (.int 3)]]]) (.call 9 (some 0) [0, 1, 2] [.var 0, .var 2, .cst (.int 7)]))] [], .ite (.prim .eq [.var 1, .cst (.int 1)]) [.ret (.call 9 (some 0) [0, 1, 2] [.var 0, .prim .add [.cst (.int 1), .call 6 (some 0) [0, 1] [.var 0, .cst (.int 2)]], .call 6 (some 0) [0, 1] [.var 0, .cst (.int 6)]])] [], .ret (.call 9 (some 0) [0, 1, 2] [.var 0, .prim .add [.cst (.int 2), .call 6 (some 0) [0, 1] [.var 0, .cst (.int 5)]], .call 6 (some 0) [0, 1] [.var 0, .cst (.int 5)]])]
/-- _law_steps(web, place, made, k) -/
def b11 : List DL.S := [.set 2 (.pack false []), .fer (.name 3) 1 [.prim .len [.prim .ix [.var 0, .cst (.int 1)]]] [.ite (.prim .eq [.prim .ix [.prim .ix [.prim .ix [.var 0, .cst (.int 1)], .var 3], .cst (.int 0)], .var 1]) [.app 2 (.pack true [.pack true [.var 3, .cst (.int 1)], .prim .ix [.prim .ix [.prim .ix [.var 0, .cst (.int 1)], .var 3], .cst (.int 1)]])] [], .ite (.prim .eq [.prim .ix [.prim .ix [.prim .ix [.var 0, .cst (.int 1)], .var 3], .cst (.int 1)], .var 1]) [.app 2 (.pack true [.pack true [.var 3, .prim .neg [.cst (.int 1)]], .prim .ix [.prim .ix [.prim .ix [.var 0, .cst (.int 1)], .var 3], .cst (.int 0)]])] []], .retv 2]
/-- _law_ways(web, start, goal, low, turn, made, queue, way, here, seen, step, there) -/
def b12 : List DL.S := [.par [5, 6] [.pack false [], .pack false [.pack true [.pack true [], .var 1, .pack true [.var 1]]]], .fer (.name 4) 1 [.cst (.int 200000)] [.ite (.prim .eq [.var 6, .pack false []]) [.brk] [], .asg (.tup [.name 7, .name 8, .name 9]) (.mth .pop 6 []), .ite (.prim .eq [.var 8, .var 2]) [.app 5 (.var 7)] [.fer (.tup [.name 10, .name 11]) 0 [.call 11 none [0, 1] [.var 0, .var 8]] [.ite (.and (.prim .gt [.prim .ix [.var 10, .cst (.int 0)], .var 3]) (.prim .notin [.var 11, .var 9])) [.app 6 (.pack true [.prim .add [.var 7, .pack true [.var 10]], .var 11, .prim .add [.var 9, .pack true [.var 11]]])] []]]], .ret (.prim .srt [.var 5])]
/-- _law_rings(web, made, k, start, end, way) -/
def b13 : List DL.S := [.set 1 (.pack false []), .fer (.name 2) 1 [.prim .len [.prim .ix [.var 0, .cst (.int 1)]]] [.asg (.tup [.name 3, .name 4]) (.prim .ix [.prim .ix [.var 0, .cst (.int 1)], .var 2]), .set 1 (.prim .add [.var 1, .comp (.prim .add [.pack true [.pack true [.var 2, .cst (.int 1)]], .var 5]) (.name 5) 0 [.call 12 none [0, 1, 2, 3] [.var 0, .var 4, .var 3, .var 2]] [] [5]])], .ret (.prim .srt [.var 1])]
/-- _law_through(web, own, pipe, made, ring, value, one, turn, k) -/
def b14 : List DL.S := [.set 3 (.pack false []), .fer (.name 4) 0 [.var 1] [.set 5 (.comp (.cst (.int 0)) (.name 8) 0 [.prim .ix [.var 0, .cst (.int 1)]] [] [8]), .fer (.tup [.name 6, .name 7]) 0 [.var 4] [.setix 5 (.var 6) (.var 7)], .ite (.prim .ne [.prim .ix [.var 5, .var 2], .cst (.int 0)]) [.app 3 (.prim .tup [.comp (.prim .mul [.prim .ix [.var 5, .var 2], .var 6]) (.name 6) 0 [.var 5] [] [6]])] []], .ret (.prim .tup [.prim .srt [.var 3]])]
/-- law(script, bag, turn, web, own, pipe, due) -/
def b15 : List DL.S := [.set 1 (.call 5 none [0] [.var 0]), .fer (.name 2) 1 [.cst (.int 2)] [.set 3 (.call 10 (some 0) [0] [.var 1]), .set 4 (.call 13 none [0] [.var 3]), .ite (.not (.call 8 none [0, 1] [.pack true [.call 3 none [0] [.var 3], .call 3 none [0] [.var 3], .call 3 none [0] [.var 3]], .prim .mul [.pack true [.prim .tup [.var 4]], .cst (.int 3)]])) [.ret (.cst (.bl false))] [], .fer (.name 5) 1 [.prim .len [.prim .ix [.var 3, .cst (.int 1)]]] [.set 6 (.call 14 none [0, 1, 2] [.var 3, .var 4, .var 5]), .ite (.not (.call 8 none [0, 1] [.pack true [.call 4 none [0, 1] [.var 3, .var 5], .call 4 none [0, 1] [.var 3, .var 5]], .pack true [.var 6, .var 6]])) [.ret (.cst (.bl false))] []]], .ret (.cst (.bl true))]
def d0 : DL.DefI := ⟨"leaving", topS 1, ["web"], ["web", "rows", "pipe", "place", "start", "end"], none, [⟨1, [], [0]⟩], b0, [], [1], [], false, [2]⟩
def d1 : DL.DefI := ⟨"values_by", topS 2, ["many", "steps"], ["many", "steps", "row", "pipe", "turn"], none, [⟨2, [], [0, 1]⟩], b1, [], [], [], false, []⟩
def d2 : DL.DefI := ⟨"ways_among", topS 4, ["web", "start", "goal", "let"], ["web", "start", "goal", "let", "rows", "found", "open_ways", "steps", "met", "pipe", "turn", "far", "longer_way"], none, [⟨4, [], [0, 1, 2, 3]⟩], b2, [], [], [], false, []⟩
def d3 : DL.DefI := ⟨"rings", topS 5, ["web"], ["web", "found", "pipe", "let", "steps", "start", "end", "other"], none, [⟨1, [], [0]⟩, ⟨0, ["web"], [0]⟩], b3, [], [], [], false, []⟩
def d4 : DL.DefI := ⟨"through", topS 6, ["web", "pipe"], ["web", "pipe", "many", "let", "found", "start", "end", "other", "steps"], none, [⟨2, [], [0, 1]⟩, ⟨0, ["web", "pipe"], [0, 1]⟩], b4, [], [], [], false, []⟩
def d5 : DL.DefI := ⟨"_law_bag", topS 8, ["script"], ["script", "cells", "great", "cell"], none, [⟨1, [], [0]⟩], b5, [], [], [], true, [2]⟩
def d6 : DL.DefI := ⟨"_law_draw", topS 9, ["bag", "many"], ["bag", "many", "cell", "mixed", "digit"], some 0, [⟨2, [], [0, 1]⟩], b6, [], [0], [], false, [2]⟩
def d7 : DL.DefI := ⟨"_law_some", topS 10, ["bag", "things", "many"], ["bag", "things", "many", "left", "made", "k"], some 0, [⟨3, [], [0, 1, 2]⟩], b7, [], [0], [], false, [2]⟩
def d8 : DL.DefI := ⟨"_law_same", topS 11, ["found", "due"], ["found", "due", "k"], none, [⟨2, [], [0, 1]⟩], b8, [], [], [], false, []⟩
def d9 : DL.DefI := ⟨"_law_web", topS 12, ["bag", "places", "more"], ["bag", "places", "more", "pipes", "k", "names", "made", "start", "one", "other", "ends"], some 0, [⟨3, [], [0, 1, 2]⟩], b9, [], [0], [], false, [2]⟩
def d10 : DL.DefI := ⟨"_law_drawn_web", topS 13, ["bag"], ["bag", "way", "places"], some 0, [⟨1, [], [0]⟩], b10, [], [0], [], false, [2]⟩
def d11 : DL.DefI := ⟨"_law_steps", topS 14, ["web", "place"], ["web", "place", "made", "k"], none, [⟨2, [], [0, 1]⟩], b11, [], [], [], false, []⟩
def d12 : DL.DefI := ⟨"_law_ways", topS 15, ["web", "start", "goal", "low"], ["web", "start", "goal", "low", "turn", "made", "queue", "way", "here", "seen", "step", "there"], none, [⟨4, [], [0, 1, 2, 3]⟩], b12, [], [], [], false, []⟩
def d13 : DL.DefI := ⟨"_law_rings", topS 16, ["web"], ["web", "made", "k", "start", "end", "way"], none, [⟨1, [], [0]⟩], b13, [], [], [], false, []⟩
def d14 : DL.DefI := ⟨"_law_through", topS 17, ["web", "own", "pipe"], ["web", "own", "pipe", "made", "ring", "value", "one", "turn", "k"], none, [⟨3, [], [0, 1, 2]⟩], b14, [], [], [], false, []⟩
def d15 : DL.DefI := ⟨"law", topS 18, ["script"], ["script", "bag", "turn", "web", "own", "pipe", "due"], none, [], b15, [], [1], [], false, [2]⟩
def dfs : List DL.DefI := [d0, d1, d2, d3, d4, d5, d6, d7, d8, d9, d10, d11, d12, d13, d14, d15]
def cns : List (Str × DL.D) := []
def bls : List Str := ["abs", "bool", "enumerate", "int", "isinstance", "len", "list", "range", "sorted", "str", "tuple"]
theorem t0 : DL.DefTr dfs cns bls d0 := ⟨⟨rfl, rfl, rfl, by decide +kernel, rfl, by decide +kernel, by decide +kernel⟩, by decide +kernel, by rfl⟩
theorem t1 : DL.DefTr dfs cns bls d1 := ⟨⟨rfl, rfl, rfl, by decide +kernel, rfl, by decide +kernel, by decide +kernel⟩, by decide +kernel, by rfl⟩
theorem t2 : DL.DefTr dfs cns bls d2 := ⟨⟨rfl, rfl, rfl, by decide +kernel, rfl, by decide +kernel, by decide +kernel⟩, by decide +kernel, by rfl⟩
theorem t3 : DL.DefTr dfs cns bls d3 := ⟨⟨rfl, rfl, rfl, by decide +kernel, rfl, by decide +kernel, by decide +kernel⟩, by decide +kernel, by rfl⟩
theorem t4 : DL.DefTr dfs cns bls d4 := ⟨⟨rfl, rfl, rfl, by decide +kernel, rfl, by decide +kernel, by decide +kernel⟩, by decide +kernel, by rfl⟩
theorem t5 : DL.DefTr dfs cns bls d5 := ⟨⟨rfl, rfl, rfl, by decide +kernel, rfl, by decide +kernel, by decide +kernel⟩, by decide +kernel, by rfl⟩
theorem t6 : DL.DefTr dfs cns bls d6 := ⟨⟨rfl, rfl, rfl, by decide +kernel, rfl, by decide +kernel, by decide +kernel⟩, by decide +kernel, by rfl⟩
theorem t7 : DL.DefTr dfs cns bls d7 := ⟨⟨rfl, rfl, rfl, by decide +kernel, rfl, by decide +kernel, by decide +kernel⟩, by decide +kernel, by rfl⟩
theorem t8 : DL.DefTr dfs cns bls d8 := ⟨⟨rfl, rfl, rfl, by decide +kernel, rfl, by decide +kernel, by decide +kernel⟩, by decide +kernel, by rfl⟩
theorem t9 : DL.DefTr dfs cns bls d9 := ⟨⟨rfl, rfl, rfl, by decide +kernel, rfl, by decide +kernel, by decide +kernel⟩, by decide +kernel, by rfl⟩
theorem t10 : DL.DefTr dfs cns bls d10 := ⟨⟨rfl, rfl, rfl, by decide +kernel, rfl, by decide +kernel, by decide +kernel⟩, by decide +kernel, by rfl⟩
theorem t11 : DL.DefTr dfs cns bls d11 := ⟨⟨rfl, rfl, rfl, by decide +kernel, rfl, by decide +kernel, by decide +kernel⟩, by decide +kernel, by rfl⟩
theorem t12 : DL.DefTr dfs cns bls d12 := ⟨⟨rfl, rfl, rfl, by decide +kernel, rfl, by decide +kernel, by decide +kernel⟩, by decide +kernel, by rfl⟩
theorem t13 : DL.DefTr dfs cns bls d13 := ⟨⟨rfl, rfl, rfl, by decide +kernel, rfl, by decide +kernel, by decide +kernel⟩, by decide +kernel, by rfl⟩
theorem t14 : DL.DefTr dfs cns bls d14 := ⟨⟨rfl, rfl, rfl, by decide +kernel, rfl, by decide +kernel, by decide +kernel⟩, by decide +kernel, by rfl⟩
theorem t15 : DL.DefTr dfs cns bls d15 := ⟨⟨rfl, rfl, rfl, by decide +kernel, rfl, by decide +kernel, by decide +kernel⟩, by decide +kernel, by rfl⟩
theorem tAll : ∀ d ∈ dfs, DL.DefTr dfs cns bls d := by
  intro d h
  simp only [dfs, List.mem_cons, List.not_mem_nil, or_false] at h
  rcases h with rfl | rfl | rfl | rfl | rfl | rfl | rfl | rfl | rfl | rfl | rfl | rfl | rfl | rfl | rfl | rfl
  · exact t0
  · exact t1
  · exact t2
  · exact t3
  · exact t4
  · exact t5
  · exact t6
  · exact t7
  · exact t8
  · exact t9
  · exact t10
  · exact t11
  · exact t12
  · exact t13
  · exact t14
  · exact t15
theorem s0 {K : PySem.W.Frag} {f : Addr} {fd : FuncData} (F : Fun K d0.name d0.name d0.st f fd) : ∀ sh ∈ d0.sh, DL.ShapeOk K fd d0.ps sh := by
  intro sh h
  simp only [d0, List.mem_cons, List.not_mem_nil, or_false] at h
  rcases h with rfl
  · exact DL.shape_of F fun _ _ _ _ _ _ s us ws h1 h2 => match us, ws, h1, h2 with | [_], [], _, _ => .of_eq rfl
theorem s1 {K : PySem.W.Frag} {f : Addr} {fd : FuncData} (F : Fun K d1.name d1.name d1.st f fd) : ∀ sh ∈ d1.sh, DL.ShapeOk K fd d1.ps sh := by
  intro sh h
  simp only [d1, List.mem_cons, List.not_mem_nil, or_false] at h
  rcases h with rfl
  · exact DL.shape_of F fun _ _ _ _ _ _ s us ws h1 h2 => match us, ws, h1, h2 with | [_, _], [], _, _ => .of_eq rfl
theorem s2 {K : PySem.W.Frag} {f : Addr} {fd : FuncData} (F : Fun K d2.name d2.name d2.st f fd) : ∀ sh ∈ d2.sh, DL.ShapeOk K fd d2.ps sh := by
  intro sh h
  simp only [d2, List.mem_cons, List.not_mem_nil, or_false] at h
  rcases h with rfl
  · exact DL.shape_of F fun _ _ _ _ _ _ s us ws h1 h2 => match us, ws, h1, h2 with | [_, _, _, _], [], _, _ => .of_eq rfl
theorem s3 {K : PySem.W.Frag} {f : Addr} {fd : FuncData} (F : Fun K d3.name d3.name d3.st f fd) : ∀ sh ∈ d3.sh, DL.ShapeOk K fd d3.ps sh := by
  intro sh h
  simp only [d3, List.mem_cons, List.not_mem_nil, or_false] at h
  rcases h with rfl | rfl
  · exact DL.shape_of F fun _ _ _ _ _ _ s us ws h1 h2 => match us, ws, h1, h2 with | [_], [], _, _ => .of_eq rfl
  · exact DL.shape_of F fun _ _ _ _ _ _ s us ws h1 h2 => match us, ws, h1, h2 with | [], [_], _, _ => .of_eq rfl
theorem s4 {K : PySem.W.Frag} {f : Addr} {fd : FuncData} (F : Fun K d4.name d4.name d4.st f fd) : ∀ sh ∈ d4.sh, DL.ShapeOk K fd d4.ps sh := by
  intro sh h
  simp only [d4, List.mem_cons, List.not_mem_nil, or_false] at h
  rcases h with rfl | rfl
  · exact DL.shape_of F fun _ _ _ _ _ _ s us ws h1 h2 => match us, ws, h1, h2 with | [_, _], [], _, _ => .of_eq rfl
  · exact DL.shape_of F fun _ _ _ _ _ _ s us ws h1 h2 => match us, ws, h1, h2 with | [], [_, _], _, _ => .of_eq rfl
theorem s5 {K : PySem.W.Frag} {f : Addr} {fd : FuncData} (F : Fun K d5.name d5.name d5.st f fd) : ∀ sh ∈ d5.sh, DL.ShapeOk K fd d5.ps sh := by
  intro sh h
  simp only [d5, List.mem_cons, List.not_mem_nil, or_false] at h
  rcases h with rfl
  · exact DL.shape_of F fun _ _ _ _ _ _ s us ws h1 h2 => match us, ws, h1, h2 with | [_], [], _, _ => .of_eq rfl
theorem s6 {K : PySem.W.Frag} {f : Addr} {fd : FuncData} (F : Fun K d6.name d6.name d6.st f fd) : ∀ sh ∈ d6.sh, DL.ShapeOk K fd d6.ps sh := by
  intro sh h
  simp only [d6, List.mem_cons, List.not_mem_nil, or_false] at h
  rcases h with rfl
  · exact DL.shape_of F fun _ _ _ _ _ _ s us ws h1 h2 => match us, ws, h1, h2 with | [_, _], [], _, _ => .of_eq rfl
theorem s7 {K : PySem.W.Frag} {f : Addr} {fd : FuncData} (F : Fun K d7.name d7.name d7.st f fd) : ∀ sh ∈ d7.sh, DL.ShapeOk K fd d7.ps sh := by
  intro sh h
  simp only [d7, List.mem_cons, List.not_mem_nil, or_false] at h
  rcases h with rfl
  · exact DL.shape_of F fun _ _ _ _ _ _ s us ws h1 h2 => match us, ws, h1, h2 with | [_, _, _], [], _, _ => .of_eq rfl
theorem s8 {K : PySem.W.Frag} {f : Addr} {fd : FuncData} (F : Fun K d8.name d8.name d8.st f fd) : ∀ sh ∈ d8.sh, DL.ShapeOk K fd d8.ps sh := by
  intro sh h
  simp only [d8, List.mem_cons, List.not_mem_nil, or_false] at h
  rcases h with rfl
  · exact DL.shape_of F fun _ _ _ _ _ _ s us ws h1 h2 => match us, ws, h1, h2 with | [_, _], [], _, _ => .of_eq rfl
theorem s9 {K : PySem.W.Frag} {f : Addr} {fd : FuncData} (F : Fun K d9.name d9.name d9.st f fd) : ∀ sh ∈ d9.sh, DL.ShapeOk K fd d9.ps sh := by
  intro sh h
  simp only [d9, List.mem_cons, List.not_mem_nil, or_false] at h
  rcases h with rfl
  · exact DL.shape_of F fun _ _ _ _ _ _ s us ws h1 h2 => match us, ws, h1, h2 with | [_, _, _], [], _, _ => .of_eq rfl
theorem s10 {K : PySem.W.Frag} {f : Addr} {fd : FuncData} (F : Fun K d10.name d10.name d10.st f fd) : ∀ sh ∈ d10.sh, DL.ShapeOk K fd d10.ps sh := by
  intro sh h
  simp only [d10, List.mem_cons, List.not_mem_nil, or_false] at h
  rcases h with rfl
  · exact DL.shape_of F fun _ _ _ _ _ _ s us ws h1 h2 => match us, ws, h1, h2 with | [_], [], _, _ => .of_eq rfl
theorem s11 {K : PySem.W.Frag} {f : Addr} {fd : FuncData} (F : Fun K d11.name d11.name d11.st f fd) : ∀ sh ∈ d11.sh, DL.ShapeOk K fd d11.ps sh := by
  intro sh h
  simp only [d11, List.mem_cons, List.not_mem_nil, or_false] at h
  rcases h with rfl
  · exact DL.shape_of F fun _ _ _ _ _ _ s us ws h1 h2 => match us, ws, h1, h2 with | [_, _], [], _, _ => .of_eq rfl
theorem s12 {K : PySem.W.Frag} {f : Addr} {fd : FuncData} (F : Fun K d12.name d12.name d12.st f fd) : ∀ sh ∈ d12.sh, DL.ShapeOk K fd d12.ps sh := by
  intro sh h
  simp only [d12, List.mem_cons, List.not_mem_nil, or_false] at h
  rcases h with rfl
  · exact DL.shape_of F fun _ _ _ _ _ _ s us ws h1 h2 => match us, ws, h1, h2 with | [_, _, _, _], [], _, _ => .of_eq rfl
theorem s13 {K : PySem.W.Frag} {f : Addr} {fd : FuncData} (F : Fun K d13.name d13.name d13.st f fd) : ∀ sh ∈ d13.sh, DL.ShapeOk K fd d13.ps sh := by
  intro sh h
  simp only [d13, List.mem_cons, List.not_mem_nil, or_false] at h
  rcases h with rfl
  · exact DL.shape_of F fun _ _ _ _ _ _ s us ws h1 h2 => match us, ws, h1, h2 with | [_], [], _, _ => .of_eq rfl
theorem s14 {K : PySem.W.Frag} {f : Addr} {fd : FuncData} (F : Fun K d14.name d14.name d14.st f fd) : ∀ sh ∈ d14.sh, DL.ShapeOk K fd d14.ps sh := by
  intro sh h
  simp only [d14, List.mem_cons, List.not_mem_nil, or_false] at h
  rcases h with rfl
  · exact DL.shape_of F fun _ _ _ _ _ _ s us ws h1 h2 => match us, ws, h1, h2 with | [_, _, _], [], _, _ => .of_eq rfl
theorem s15 {K : PySem.W.Frag} {f : Addr} {fd : FuncData} (F : Fun K d15.name d15.name d15.st f fd) : ∀ sh ∈ d15.sh, DL.ShapeOk K fd d15.ps sh := fun sh h => by cases h
theorem shAll : ∀ d ∈ dfs, DL.ShOk d := by
  intro d h
  simp only [dfs, List.mem_cons, List.not_mem_nil, or_false] at h
  rcases h with rfl | rfl | rfl | rfl | rfl | rfl | rfl | rfl | rfl | rfl | rfl | rfl | rfl | rfl | rfl | rfl
  · exact fun F => s0 F
  · exact fun F => s1 F
  · exact fun F => s2 F
  · exact fun F => s3 F
  · exact fun F => s4 F
  · exact fun F => s5 F
  · exact fun F => s6 F
  · exact fun F => s7 F
  · exact fun F => s8 F
  · exact fun F => s9 F
  · exact fun F => s10 F
  · exact fun F => s11 F
  · exact fun F => s12 F
  · exact fun F => s13 F
  · exact fun F => s14 F
  · exact fun F => s15 F
end K13

set_option Elab.async false
set_option linter.all false
set_option maxRecDepth 100000
set_option maxHeartbeats 4000000
namespace K13
open PySem PySem.Spec PyProof.Rows L2
abbrev R : PySem.W.OpenRow := PySem.W.OpenLaw.row PySem.Challenge.rw_ringsigns_k13_rings_by_own
def loose : List PySem.Str := (["leaving", "values_by", "ways_among", "rings", "through", "_law_bag", "_law_draw", "_law_some", "_law_same", "_law_web", "_law_drawn_web", "_law_steps", "_law_ways", "_law_rings", "_law_through"] : List PySem.Str)
set_option maxHeartbeats 0 in
theorem run (w : World) : HandSHeadRun.RunEq R (PySem.W.view R.prog [18]) (DL.hkOf 6 dfs cns bls) (DL.obOf 6 dfs cns bls) 6000 loose w := by
  intro os
  kernel_rfl
end K13

set_option Elab.async false
set_option linter.all false
set_option maxRecDepth 100000
set_option maxHeartbeats 4000000
namespace DL
open PySem PySem.Spec PyProof.Rows L2

/-! ## what a run comes to -/
def Post {α : Type} (r : R α) (Q : α → Prop) : Prop := match r with
  | .ok a => Q a
  | _ => False
def On {α : Type} (o : Option α) (Q : α → Prop) : Prop := match o with
  | some a => Q a
  | none => False
def If (b : Bool) (A B : Prop) : Prop := if b = true then A else B
theorem If.mk {b : Bool} {A B : Prop} (h1 : b = true → A) (h2 : b = false → B) : If b A B := by
  cases b with
  | true => exact h1 rfl
  | false => exact h2 rfl
/-- held back until it is known which way it goes -/
def Hd {α : Type} (r : R α) (Q : α → Prop) : Prop := Post r Q
def Ap {α : Type} (Q : α → Prop) (x : α) : Prop := Q x
@[simp low] theorem If_true (A B : Prop) : If true A B = A := propext Iff.rfl
@[simp low] theorem If_false (A B : Prop) : If false A B = B := if_neg Bool.false_ne_true
section
variable {α β : Type} {b : Bool} {r : R α} {r' : R β} {Q : α → Prop} {Q' : β → Prop} {x : α} {y : β} {A : Prop}
@[simp] theorem If_tH : If true (Hd r Q) A = Post r Q := propext Iff.rfl
@[simp] theorem If_fH : If false A (Hd r Q) = Post r Q := propext Iff.rfl
@[simp] theorem If_tA : If true (Ap Q x) A = Q x := propext Iff.rfl
@[simp] theorem If_fA : If false A (Ap Q x) = Q x := propext Iff.rfl
theorem If.hh (h1 : b = true → Post r Q) (h2 : b = false → Post r' Q') : If b (Hd r Q) (Hd r' Q') := If.mk h1 h2
theorem If.ha (h1 : b = true → Post r Q) (h2 : b = false → Q' y) : If b (Hd r Q) (Ap Q' y) := If.mk h1 h2
theorem If.ah (h1 : b = true → Q x) (h2 : b = false → Post r' Q') : If b (Ap Q x) (Hd r' Q') := If.mk h1 h2
theorem If.aa (h1 : b = true → Q x) (h2 : b = false → Q' y) : If b (Ap Q x) (Ap Q' y) := If.mk h1 h2
end
section
variable {α β : Type} {Γ : Gam} {l : Loc}
@[simp] theorem Post_ok (a : α) (Q : α → Prop) : Post (.ok a) Q = Q a := propext Iff.rfl
@[simp] theorem Post_bad (Q : α → Prop) : Post (.bad : R α) Q = False := propext Iff.rfl
@[simp] theorem On_some (a : α) (Q : α → Prop) : On (some a) Q = Q a := propext Iff.rfl
@[simp] theorem On_none (Q : α → Prop) : On (none : Option α) Q = False := propext Iff.rfl
theorem Post.bind {r : R α} {f : α → R β} {Q : β → Prop} : Post (r.bind f) Q ↔ Post r fun a => Post (f a) Q := by cases r <;> exact Iff.rfl
theorem Post.imp {r : R α} {Q Q' : α → Prop} (h : Post r Q) (g : ∀ a, Q a → Q' a) : Post r Q' := by
  cases r with
  | ok a => exact g a h
  | exc x l => exact h
  | bad => exact h
theorem Post.eq {r : R α} {a : α} (h : Post r fun b => b = a) : r = .ok a := by
  cases r with
  | ok b => exact congrArg R.ok h
  | exc x l => exact h.elim
  | bad => exact h.elim
theorem post_ite {c : Prop} [Decidable c] {a b : R α} {Q : α → Prop} : Post (if c then a else b) Q ↔ if c then Post a Q else Post b Q := by split <;> exact Iff.rfl
theorem post_on {o : Option α} {f : α → R β} {Q : β → Prop} : Post (match o with | some a => f a | none => .bad) Q ↔ On o fun a => Post (f a) Q := by cases o <;> exact Iff.rfl

/-! ### expressions -/
@[simp] theorem p_var {i : Nat} {Q : Sl × Loc → Prop} : Post (evX Γ (.var i) l) Q ↔ On l[i]? fun s => match s with
    | .val d => Q (.val d, l)
    | .own ds => Q (.val (.lst ds), l.set i (.val (.lst ds)))
    | .un => False
    | .nst _ => False := by
  rw [evX.eq_def]; dsimp only
  cases l[i]? with
  | none => exact Iff.rfl
  | some s => cases s <;> exact Iff.rfl
@[simp] theorem p_cst {d : D} {Q : Sl × Loc → Prop} : Post (evX Γ (.cst d) l) Q ↔ Q (.val d, l) := by rw [evX.eq_def]; exact Iff.rfl
@[simp] theorem p_prim {p : Prim} {es : List E} {Q : Sl × Loc → Prop} : Post (evX Γ (.prim p es) l) Q ↔ Post (evAs Γ es l) fun r => On (resL r.2 r.1) fun ds => On (primD p ds) fun s => Q (s, r.2) := by
  rw [evX.eq_def]; dsimp only
  rw [Post.bind]
  have : ∀ r : List A × Loc, Post (match resL r.2 r.1 with | some ds => (match primD p ds with | some s => R.ok (s, r.2) | none => .bad) | none => .bad) Q ↔ On (resL r.2 r.1) fun ds => On (primD p ds) fun s => Q (s, r.2) := fun r => by
    cases resL r.2 r.1 with
    | none => exact Iff.rfl
    | some ds => dsimp only [On]; cases primD p ds <;> exact Iff.rfl
  exact ⟨fun h => h.imp fun a q => (this a).mp q, fun h => h.imp fun a q => (this a).mpr q⟩
@[simp] theorem p_pack {t : Bool} {es : List E} {Q : Sl × Loc → Prop} : Post (evX Γ (.pack t es) l) Q ↔ Post (evDs Γ es l) fun r => r.1.length ≤ 16777216 ∧ Q (if t then .val (.tup r.1) else .own r.1, r.2) := by
  rw [evX.eq_def]; dsimp only
  rw [Post.bind]
  have : ∀ r : List D × Loc, Post (if r.1.length ≤ 16777216 then R.ok (if t then .val (.tup r.1) else .own r.1, r.2) else .bad) Q ↔ r.1.length ≤ 16777216 ∧ Q (if t then .val (.tup r.1) else .own r.1, r.2) := fun r => by
    by_cases h : r.1.length ≤ 16777216
    · rw [if_pos h]; exact ⟨fun q => ⟨h, q⟩, fun q => q.2⟩
    · rw [if_neg h]; exact ⟨fun q => q.elim, fun q => h q.1⟩
  exact ⟨fun h => h.imp fun a q => (this a).mp q, fun h => h.imp fun a q => (this a).mpr q⟩
def bT : Sl → Bool → Prop
  | .val (.bl true), b => b = true
  | .val (.bl false), b => b = false
  | _, _ => False
/-- a truth value -/
def Bl (s : Sl) (Q : Bool → Prop) : Prop := match s with
  | .val (.bl b) => Q b
  | _ => False
@[simp] theorem Bl_bl (b : Bool) (Q : Bool → Prop) : Bl (.val (.bl b)) Q = Q b := propext Iff.rfl
theorem p_and' {a b : E} {Q : Sl × Loc → Prop} : Post (evX Γ (.and a b) l) Q ↔ Post (evX Γ a l) fun r => Bl r.1 fun c => if c = true then Post (evX Γ b r.2) Q else Q (.val (.bl false), r.2) := by
  rw [evX.eq_def]; dsimp only
  rw [Post.bind]
  have : ∀ r : Sl × Loc, Post (match r.1 with | .val (.bl true) => evX Γ b r.2 | .val (.bl false) => .ok (.val (.bl false), r.2) | _ => .bad) Q ↔ Bl r.1 fun c => if c = true then Post (evX Γ b r.2) Q else Q (.val (.bl false), r.2) := fun r => by
    obtain ⟨s, l⟩ := r
    match s with
    | .un => exact Iff.rfl
    | .own _ => exact Iff.rfl
    | .nst _ => exact Iff.rfl
    | .val (.bl true) => simp
    | .val (.bl false) => simp
    | .val .non | .val (.int _) | .val (.str _) | .val (.tup _) | .val (.lst _) => exact Iff.rfl
  exact ⟨fun h => h.imp fun a q => (this a).mp q, fun h => h.imp fun a q => (this a).mpr q⟩
theorem p_or' {a b : E} {Q : Sl × Loc → Prop} : Post (evX Γ (.or a b) l) Q ↔ Post (evX Γ a l) fun r => Bl r.1 fun c => if c = true then Q (.val (.bl true), r.2) else Post (evX Γ b r.2) Q := by
  rw [evX.eq_def]; dsimp only
  rw [Post.bind]
  have : ∀ r : Sl × Loc, Post (match r.1 with | .val (.bl false) => evX Γ b r.2 | .val (.bl true) => .ok (.val (.bl true), r.2) | _ => .bad) Q ↔ Bl r.1 fun c => if c = true then Q (.val (.bl true), r.2) else Post (evX Γ b r.2) Q := fun r => by
    obtain ⟨s, l⟩ := r
    match s with
    | .un => exact Iff.rfl
    | .own _ => exact Iff.rfl
    | .nst _ => exact Iff.rfl
    | .val (.bl true) => simp
    | .val (.bl false) => simp
    | .val .non | .val (.int _) | .val (.str _) | .val (.tup _) | .val (.lst _) => exact Iff.rfl
  exact ⟨fun h => h.imp fun a q => (this a).mp q, fun h => h.imp fun a q => (this a).mpr q⟩
@[simp] theorem p_not {a : E} {Q : Sl × Loc → Prop} : Post (evX Γ (.not a) l) Q ↔ Post (evX Γ a l) fun r => Bl r.1 fun c => Q (.val (.bl (!c)), r.2) := by
  rw [evX.eq_def]; dsimp only
  rw [Post.bind]
  have : ∀ r : Sl × Loc, Post (match r.1 with | .val (.bl b) => R.ok (Sl.val (.bl (!b)), r.2) | _ => .bad) Q ↔ Bl r.1 fun c => Q (.val (.bl (!c)), r.2) := fun r => by
    obtain ⟨s, l⟩ := r
    match s with
    | .un => exact Iff.rfl
    | .own _ => exact Iff.rfl
    | .nst _ => exact Iff.rfl
    | .val (.bl b) => simp
    | .val .non | .val (.int _) | .val (.str _) | .val (.tup _) | .val (.lst _) => exact Iff.rfl
  exact ⟨fun h => h.imp fun a q => (this a).mp q, fun h => h.imp fun a q => (this a).mpr q⟩
theorem p_ite' {c a b : E} {Q : Sl × Loc → Prop} : Post (evX Γ (.ite c a b) l) Q ↔ Post (evT Γ c l) fun r => if r.1 = true then Post (evX Γ a r.2) Q else Post (evX Γ b r.2) Q := by
  rw [evX.eq_def]; dsimp only
  rw [Post.bind]
  exact ⟨fun h => h.imp fun a q => post_ite.mp q, fun h => h.imp fun a q => post_ite.mpr q⟩
@[simp] theorem p_call {f : Nat} {rf : Option Nat} {pm : List Nat} {es : List E} {Q : Sl × Loc → Prop} : Post (evX Γ (.call f rf pm es) l) Q ↔ Post (evAs Γ es l) fun r => On (argsOf r.2 rf r.1 0 pm) fun args => Post (Γ f args) fun o => On (after r.2 rf r.1 pm o.1 o.2) fun l1 => Q (o.1, l1) := by
  rw [evX.eq_def]; dsimp only
  rw [Post.bind]
  have : ∀ r : List A × Loc, Post (match argsOf r.2 rf r.1 0 pm with | none => .bad | some args => match Γ f args with
      | .ok (s, outs) => (match after r.2 rf r.1 pm s outs with | some l1 => .ok (s, l1) | none => .bad)
      | .exc x _ => if rf.isNone then .exc x r.2 else .bad
      | .bad => .bad) Q ↔ On (argsOf r.2 rf r.1 0 pm) fun args => Post (Γ f args) fun o => On (after r.2 rf r.1 pm o.1 o.2) fun l1 => Q (o.1, l1) := fun r => by
    cases argsOf r.2 rf r.1 0 pm with
    | none => exact Iff.rfl
    | some args =>
      dsimp only [On]
      cases Γ f args with
      | ok o => obtain ⟨s, outs⟩ := o; dsimp only [Post]; cases after r.2 rf r.1 pm s outs <;> exact Iff.rfl
      | exc x l => dsimp only; split <;> exact Iff.rfl
      | bad => exact Iff.rfl
  exact ⟨fun h => h.imp fun a q => (this a).mp q, fun h => h.imp fun a q => (this a).mpr q⟩
@[simp] theorem p_slc {a : E} {b1 b2 : Bool} {es : List E} {Q : Sl × Loc → Prop} : Post (evX Γ (.slc a b1 b2 es) l) Q ↔ Post (evAs Γ [a] l) fun r => Post (evIs Γ es r.2) fun r1 => On (resL r1.2 r.1) fun ds => On (partsD b1 b2 r1.1) fun p => match ds with
    | [d] => On (slD d p) fun s => Q (s, r1.2)
    | _ => False := by
  rw [evX.eq_def]; dsimp only
  rw [Post.bind]
  have : ∀ (r : List A × Loc) (r1 : List Int × Loc), Post (match resL r1.2 r.1, partsD b1 b2 r1.1 with
    | some [d], some p => (match slD d p with | some s => R.ok (s, r1.2) | none => .bad)
    | _, _ => .bad) Q ↔ On (resL r1.2 r.1) fun ds => On (partsD b1 b2 r1.1) fun p => match ds with
    | [d] => On (slD d p) fun s => Q (s, r1.2)
    | _ => False := fun r r1 => by
    cases resL r1.2 r.1 with
    | none => exact Iff.rfl
    | some ds =>
      cases partsD b1 b2 r1.1 with
      | none =>
        match ds with
        | [] => exact Iff.rfl
        | [d] => exact Iff.rfl
        | _ :: _ :: _ => exact Iff.rfl
      | some p =>
        match ds with
        | [] => exact Iff.rfl
        | [d] => dsimp only [On]; cases slD d p <;> exact Iff.rfl
        | _ :: _ :: _ => exact Iff.rfl
  constructor
  · exact fun h => h.imp fun a q => (Post.bind.mp q).imp fun b q => (this a b).mp q
  · exact fun h => h.imp fun a q => Post.bind.mpr (q.imp fun b q => (this a b).mpr q)
theorem p_chain' {p q : Prim} {a b c : E} {Q : Sl × Loc → Prop} : Post (evX Γ (.chain p q a b c) l) Q ↔ Post (evX Γ a l) fun r => Post (evX Γ b r.2) fun r1 => On (primD p [r.1.d, r1.1.d]) fun s => Bl s fun t => if t = true then Post (evX Γ c r1.2) (fun r2 => On (primD q [r1.1.d, r2.1.d]) fun s => Q (s, r2.2)) else Q (.val (.bl false), r1.2) := by
  rw [evX.eq_def]; dsimp only
  rw [Post.bind]
  have h2 : ∀ (r1 r2 : Sl × Loc), Post (match primD q [r1.1.d, r2.1.d] with | some s => R.ok (s, r2.2) | none => .bad) Q ↔ On (primD q [r1.1.d, r2.1.d]) fun s => Q (s, r2.2) := fun r1 r2 => by
    cases primD q [r1.1.d, r2.1.d] <;> exact Iff.rfl
  have : ∀ (r r1 : Sl × Loc), Post (match primD p [r.1.d, r1.1.d] with
    | some (.val (.bl true)) => (evX Γ c r1.2).bind fun r2 => (match primD q [r1.1.d, r2.1.d] with
      | some s => .ok (s, r2.2)
      | none => .bad)
    | some (.val (.bl false)) => .ok (.val (.bl false), r1.2)
    | _ => .bad) Q ↔ On (primD p [r.1.d, r1.1.d]) fun s => Bl s fun t => if t = true then Post (evX Γ c r1.2) (fun r2 => On (primD q [r1.1.d, r2.1.d]) fun s => Q (s, r2.2)) else Q (.val (.bl false), r1.2) := fun r r1 => by
    cases primD p [r.1.d, r1.1.d] with
    | none => exact Iff.rfl
    | some s =>
      match s with
      | .un => exact Iff.rfl
      | .own _ => exact Iff.rfl
      | .nst _ => exact Iff.rfl
      | .val (.bl true) =>
        dsimp only [On, Bl]
        rw [if_pos rfl]
        exact ⟨fun h => (Post.bind.mp h).imp fun a q => (h2 r1 a).mp q, fun h => Post.bind.mpr (h.imp fun a q => (h2 r1 a).mpr q)⟩
      | .val (.bl false) => dsimp only [On, Bl]; rw [if_neg Bool.false_ne_true]; exact Iff.rfl
      | .val .non | .val (.int _) | .val (.str _) | .val (.tup _) | .val (.lst _) => exact Iff.rfl
  constructor
  · exact fun h => h.imp fun a q => (Post.bind.mp q).imp fun b q => (this a b).mp q
  · exact fun h => h.imp fun a q => Post.bind.mpr (q.imp fun b q => (this a b).mpr q)
/-! ### arguments -/
@[simp] theorem p_As_nil {Q : List A × Loc → Prop} : Post (evAs Γ [] l) Q ↔ Q ([], l) := by rw [evAs.eq_def]; exact Iff.rfl
def isV : E → Bool
  | .var _ => true
  | _ => false
@[simp] theorem p_As_var {i : Nat} {es : List E} {Q : List A × Loc → Prop} : Post (evAs Γ (.var i :: es) l) Q ↔ resN l i = true ∧ Post (evAs Γ es l) fun r => Q (.pos i :: r.1, r.2) := by
  rw [evAs.eq_def]; dsimp only
  cases resN l i with
  | false => exact ⟨fun h => h.elim, fun h => by cases h.1⟩
  | true => exact ⟨fun h => ⟨rfl, Post.bind.mp h⟩, fun h => Post.bind.mpr h.2⟩
@[simp] theorem resN_v {d : D} : resN (.val d :: l) 0 = true := rfl
@[simp] theorem resN_o {ds : List D} : resN (.own ds :: l) 0 = true := rfl
@[simp] theorem resN_n {cs : List Cl} : resN (.nst cs :: l) 0 = true := rfl
@[simp] theorem resN_s {s : Sl} {i : Nat} : resN (s :: l) (i + 1) = resN l i := rfl
theorem p_As_cons {e : E} {es : List E} {Q : List A × Loc → Prop} (h : isV e = false) : Post (evAs Γ (e :: es) l) Q ↔ Post (evX Γ e l) fun r => Post (evAs Γ es r.2) fun r2 => Q (.dat r.1.d :: r2.1, r2.2) := by
  rw [evAs.eq_def]
  cases e <;> first
    | (dsimp only; rw [Post.bind]; exact ⟨fun h => h.imp fun a q => Post.bind.mp q, fun h => h.imp fun a q => Post.bind.mpr q⟩)
    | cases h
@[simp] theorem p_Ds_nil {Q : List D × Loc → Prop} : Post (evDs Γ [] l) Q ↔ Q ([], l) := by rw [evDs.eq_def]; exact Iff.rfl
@[simp] theorem p_Ds_cons {e : E} {es : List E} {Q : List D × Loc → Prop} : Post (evDs Γ (e :: es) l) Q ↔ Post (evX Γ e l) fun r => Post (evDs Γ es r.2) fun r2 => Q (r.1.d :: r2.1, r2.2) := by
  rw [evDs.eq_def]; dsimp only
  rw [Post.bind]
  exact ⟨fun h => h.imp fun a q => Post.bind.mp q, fun h => h.imp fun a q => Post.bind.mpr q⟩
@[simp] theorem p_Ss_nil {Q : List Sl × Loc → Prop} : Post (evSs Γ [] l) Q ↔ Q ([], l) := by rw [evSs.eq_def]; exact Iff.rfl
@[simp] theorem p_Ss_cons {e : E} {es : List E} {Q : List Sl × Loc → Prop} : Post (evSs Γ (e :: es) l) Q ↔ Post (evX Γ e l) fun r => Post (evSs Γ es r.2) fun r2 => Q (r.1 :: r2.1, r2.2) := by
  rw [evSs.eq_def]; dsimp only
  rw [Post.bind]
  exact ⟨fun h => h.imp fun a q => Post.bind.mp q, fun h => h.imp fun a q => Post.bind.mpr q⟩
@[simp] theorem p_Is_nil {Q : List Int × Loc → Prop} : Post (evIs Γ [] l) Q ↔ Q ([], l) := by rw [evIs.eq_def]; exact Iff.rfl
def Ix (s : Sl) (Q : Int → Prop) : Prop := match s with
  | .val (.int i) => Q i
  | _ => False
@[simp] theorem Ix_int (i : Int) (Q : Int → Prop) : Ix (.val (.int i)) Q = Q i := propext Iff.rfl
@[simp] theorem p_Is_cons {e : E} {es : List E} {Q : List Int × Loc → Prop} : Post (evIs Γ (e :: es) l) Q ↔ Post (evX Γ e l) fun r => Ix r.1 fun i => Post (evIs Γ es r.2) fun r2 => Q (i :: r2.1, r2.2) := by
  rw [evIs.eq_def]; dsimp only
  rw [Post.bind]
  have : ∀ r : Sl × Loc, Post (match r.1 with | .val (.int i) => (evIs Γ es r.2).bind fun r2 => .ok (i :: r2.1, r2.2) | _ => .bad) Q ↔ Ix r.1 fun i => Post (evIs Γ es r.2) fun r2 => Q (i :: r2.1, r2.2) := fun r => by
    obtain ⟨s, l⟩ := r
    match s with
    | .un => exact Iff.rfl
    | .own _ => exact Iff.rfl
    | .nst _ => exact Iff.rfl
    | .val (.int i) => exact Post.bind
    | .val .non | .val (.bl _) | .val (.str _) | .val (.tup _) | .val (.lst _) => exact Iff.rfl
  exact ⟨fun h => h.imp fun a q => (this a).mp q, fun h => h.imp fun a q => (this a).mpr q⟩
/-! ### tests -/
theorem t_and' {a b : E} {Q : Bool × Loc → Prop} : Post (evT Γ (.and a b) l) Q ↔ Post (evT Γ a l) fun r => if r.1 = true then Post (evT Γ b r.2) Q else Q (false, r.2) := by
  rw [evT.eq_def]; dsimp only
  rw [Post.bind]
  exact ⟨fun h => h.imp fun a q => post_ite.mp q, fun h => h.imp fun a q => post_ite.mpr q⟩
theorem t_or' {a b : E} {Q : Bool × Loc → Prop} : Post (evT Γ (.or a b) l) Q ↔ Post (evT Γ a l) fun r => if r.1 = true then Q (true, r.2) else Post (evT Γ b r.2) Q := by
  rw [evT.eq_def]; dsimp only
  rw [Post.bind]
  exact ⟨fun h => h.imp fun a q => post_ite.mp q, fun h => h.imp fun a q => post_ite.mpr q⟩
@[simp] theorem t_not {a : E} {Q : Bool × Loc → Prop} : Post (evT Γ (.not a) l) Q ↔ Post (evT Γ a l) fun r => Q (!r.1, r.2) := by
  rw [evT.eq_def]; dsimp only
  rw [Post.bind]
  exact Iff.rfl
@[simp] theorem t_var {i : Nat} {Q : Bool × Loc → Prop} : Post (evT Γ (.var i) l) Q ↔ On (res l (.pos i)) fun d => On (truth d) fun b => Q (b, l) := by
  rw [evT.eq_def]; dsimp only
  cases res l (.pos i) with
  | none => exact Iff.rfl
  | some d => dsimp only [On]; cases truth d <;> exact Iff.rfl
@[simp] theorem t_cst {d : D} {Q : Bool × Loc → Prop} : Post (evT Γ (.cst d) l) Q ↔ On (truth d) fun b => Q (b, l) := by
  rw [evT.eq_def]; dsimp only
  cases truth d <;> exact Iff.rfl
@[simp] theorem t_prim {p : Prim} {es : List E} {Q : Bool × Loc → Prop} : Post (evT Γ (.prim p es) l) Q ↔ Post (evAs Γ es l) fun r => On (resL r.2 r.1) fun ds => On (primD p ds) fun s => On (truth s.d) fun b => Q (b, r.2) := by
  rw [evT.eq_def]; dsimp only
  rw [Post.bind]
  have : ∀ r : List A × Loc, Post (match resL r.2 r.1 with | some ds => (match primD p ds with | some s => (match truth s.d with | some b => R.ok (b, r.2) | none => .bad) | none => .bad) | none => .bad) Q ↔ On (resL r.2 r.1) fun ds => On (primD p ds) fun s => On (truth s.d) fun b => Q (b, r.2) := fun r => by
    cases resL r.2 r.1 with
    | none => exact Iff.rfl
    | some ds =>
      dsimp only [On]
      cases primD p ds with
      | none => exact Iff.rfl
      | some s => dsimp only; cases truth s.d <;> exact Iff.rfl
  exact ⟨fun h => h.imp fun a q => (this a).mp q, fun h => h.imp fun a q => (this a).mpr q⟩
@[simp] theorem t_call {f : Nat} {rf : Option Nat} {pm : List Nat} {es : List E} {Q : Bool × Loc → Prop} : Post (evT Γ (.call f rf pm es) l) Q ↔ Post (evAs Γ es l) fun r => On (argsOf r.2 rf r.1 0 pm) fun args => Post (Γ f args) fun o => On (after r.2 rf r.1 pm o.1 o.2) fun l1 => On (truth o.1.d) fun b => Q (b, l1) := by
  rw [evT.eq_def]; dsimp only
  rw [Post.bind]
  have : ∀ r : List A × Loc, Post (match argsOf r.2 rf r.1 0 pm with | none => .bad | some args => match Γ f args with
      | .ok (s, outs) => (match after r.2 rf r.1 pm s outs with | some l1 => (match truth s.d with | some b => .ok (b, l1) | none => .bad) | none => .bad)
      | .exc x _ => if rf.isNone then .exc x r.2 else .bad
      | .bad => .bad) Q ↔ On (argsOf r.2 rf r.1 0 pm) fun args => Post (Γ f args) fun o => On (after r.2 rf r.1 pm o.1 o.2) fun l1 => On (truth o.1.d) fun b => Q (b, l1) := fun r => by
    cases argsOf r.2 rf r.1 0 pm with
    | none => exact Iff.rfl
    | some args =>
      dsimp only [On]
      cases Γ f args with
      | ok o =>
        obtain ⟨s, outs⟩ := o
        dsimp only [Post]
        cases after r.2 rf r.1 pm s outs with
        | none => exact Iff.rfl
        | some l1 => dsimp only; cases truth s.d <;> exact Iff.rfl
      | exc x l => dsimp only; split <;> exact Iff.rfl
      | bad => exact Iff.rfl
  exact ⟨fun h => h.imp fun a q => (this a).mp q, fun h => h.imp fun a q => (this a).mpr q⟩
theorem t_chain' {p q : Prim} {a b c : E} {Q : Bool × Loc → Prop} : Post (evT Γ (.chain p q a b c) l) Q ↔ Post (evX Γ a l) fun r => Post (evX Γ b r.2) fun r1 => On (primD p [r.1.d, r1.1.d]) fun s => Bl s fun t => if t = true then Post (evX Γ c r1.2) (fun r2 => On (primD q [r1.1.d, r2.1.d]) fun s => Bl s fun b => Q (b, r2.2)) else Q (false, r1.2) := by
  rw [evT.eq_def]; dsimp only
  rw [Post.bind]
  have h2 : ∀ (r1 r2 : Sl × Loc), Post (match primD q [r1.1.d, r2.1.d] with | some (.val (.bl b)) => R.ok (b, r2.2) | _ => .bad) Q ↔ On (primD q [r1.1.d, r2.1.d]) fun s => Bl s fun b => Q (b, r2.2) := fun r1 r2 => by
    cases primD q [r1.1.d, r2.1.d] with
    | none => exact Iff.rfl
    | some s =>
      match s with
      | .un => exact Iff.rfl
      | .own _ => exact Iff.rfl
      | .nst _ => exact Iff.rfl
      | .val (.bl _) => exact Iff.rfl
      | .val .non | .val (.int _) | .val (.str _) | .val (.tup _) | .val (.lst _) => exact Iff.rfl
  have : ∀ (r r1 : Sl × Loc), Post (match primD p [r.1.d, r1.1.d] with
    | some (.val (.bl true)) => (evX Γ c r1.2).bind fun r2 => (match primD q [r1.1.d, r2.1.d] with
      | some (.val (.bl b)) => .ok (b, r2.2)
      | _ => .bad)
    | some (.val (.bl false)) => .ok (false, r1.2)
    | _ => .bad) Q ↔ On (primD p [r.1.d, r1.1.d]) fun s => Bl s fun t => if t = true then Post (evX Γ c r1.2) (fun r2 => On (primD q [r1.1.d, r2.1.d]) fun s => Bl s fun b => Q (b, r2.2)) else Q (false, r1.2) := fun r r1 => by
    cases primD p [r.1.d, r1.1.d] with
    | none => exact Iff.rfl
    | some s =>
      match s with
      | .un => exact Iff.rfl
      | .own _ => exact Iff.rfl
      | .nst _ => exact Iff.rfl
      | .val (.bl true) =>
        dsimp only [On, Bl]
        rw [if_pos rfl]
        exact ⟨fun h => (Post.bind.mp h).imp fun a q => (h2 r1 a).mp q, fun h => Post.bind.mpr (h.imp fun a q => (h2 r1 a).mpr q)⟩
      | .val (.bl false) => dsimp only [On, Bl]; rw [if_neg Bool.false_ne_true]; exact Iff.rfl
      | .val .non | .val (.int _) | .val (.str _) | .val (.tup _) | .val (.lst _) => exact Iff.rfl
  constructor
  · exact fun h => h.imp fun a q => (Post.bind.mp q).imp fun b q => (this a b).mp q
  · exact fun h => h.imp fun a q => Post.bind.mpr (q.imp fun b q => (this a b).mpr q)
@[simp] theorem p_and {a b : E} {Q : Sl × Loc → Prop} : Post (evX Γ (.and a b) l) Q ↔ Post (evX Γ a l) fun r => Bl r.1 fun c => If c (Hd (evX Γ b r.2) Q) (Ap Q (.val (.bl false), r.2)) := p_and'
@[simp] theorem p_or {a b : E} {Q : Sl × Loc → Prop} : Post (evX Γ (.or a b) l) Q ↔ Post (evX Γ a l) fun r => Bl r.1 fun c => If c (Ap Q (.val (.bl true), r.2)) (Hd (evX Γ b r.2) Q) := p_or'
@[simp] theorem p_ite {c a b : E} {Q : Sl × Loc → Prop} : Post (evX Γ (.ite c a b) l) Q ↔ Post (evT Γ c l) fun r => If r.1 (Hd (evX Γ a r.2) Q) (Hd (evX Γ b r.2) Q) := p_ite'
@[simp] theorem t_and {a b : E} {Q : Bool × Loc → Prop} : Post (evT Γ (.and a b) l) Q ↔ Post (evT Γ a l) fun r => If r.1 (Hd (evT Γ b r.2) Q) (Ap Q (false, r.2)) := t_and'
@[simp] theorem t_or {a b : E} {Q : Bool × Loc → Prop} : Post (evT Γ (.or a b) l) Q ↔ Post (evT Γ a l) fun r => If r.1 (Ap Q (true, r.2)) (Hd (evT Γ b r.2) Q) := t_or'
@[simp] theorem p_chain {p q : Prim} {a b c : E} {Q : Sl × Loc → Prop} : Post (evX Γ (.chain p q a b c) l) Q ↔ Post (evX Γ a l) fun r => Post (evX Γ b r.2) fun r1 => On (primD p [r.1.d, r1.1.d]) fun s => Bl s fun t => If t (Hd (evX Γ c r1.2) (fun r2 => On (primD q [r1.1.d, r2.1.d]) fun s => Q (s, r2.2))) (Ap Q (.val (.bl false), r1.2)) := p_chain'
@[simp] theorem t_chain {p q : Prim} {a b c : E} {Q : Bool × Loc → Prop} : Post (evT Γ (.chain p q a b c) l) Q ↔ Post (evX Γ a l) fun r => Post (evX Γ b r.2) fun r1 => On (primD p [r.1.d, r1.1.d]) fun s => Bl s fun t => If t (Hd (evX Γ c r1.2) (fun r2 => On (primD q [r1.1.d, r2.1.d]) fun s => Bl s fun b => Q (b, r2.2))) (Ap Q (false, r1.2)) := t_chain'
@[simp] theorem p_As_cst {d : D} {es : List E} {Q : List A × Loc → Prop} : Post (evAs Γ (.cst d :: es) l) Q ↔ Post (evX Γ (.cst d) l) fun r => Post (evAs Γ es r.2) fun r2 => Q (.dat r.1.d :: r2.1, r2.2) := p_As_cons rfl
@[simp] theorem p_As_prim {p : Prim} {fs : List E} {es : List E} {Q : List A × Loc → Prop} : Post (evAs Γ (.prim p fs :: es) l) Q ↔ Post (evX Γ (.prim p fs) l) fun r => Post (evAs Γ es r.2) fun r2 => Q (.dat r.1.d :: r2.1, r2.2) := p_As_cons rfl
@[simp] theorem p_As_pack {t : Bool} {fs : List E} {es : List E} {Q : List A × Loc → Prop} : Post (evAs Γ (.pack t fs :: es) l) Q ↔ Post (evX Γ (.pack t fs) l) fun r => Post (evAs Γ es r.2) fun r2 => Q (.dat r.1.d :: r2.1, r2.2) := p_As_cons rfl
@[simp] theorem p_As_and {a b : E} {es : List E} {Q : List A × Loc → Prop} : Post (evAs Γ (.and a b :: es) l) Q ↔ Post (evX Γ (.and a b) l) fun r => Post (evAs Γ es r.2) fun r2 => Q (.dat r.1.d :: r2.1, r2.2) := p_As_cons rfl
@[simp] theorem p_As_or {a b : E} {es : List E} {Q : List A × Loc → Prop} : Post (evAs Γ (.or a b :: es) l) Q ↔ Post (evX Γ (.or a b) l) fun r => Post (evAs Γ es r.2) fun r2 => Q (.dat r.1.d :: r2.1, r2.2) := p_As_cons rfl
@[simp] theorem p_As_not {a : E} {es : List E} {Q : List A × Loc → Prop} : Post (evAs Γ (.not a :: es) l) Q ↔ Post (evX Γ (.not a) l) fun r => Post (evAs Γ es r.2) fun r2 => Q (.dat r.1.d :: r2.1, r2.2) := p_As_cons rfl
@[simp] theorem p_As_ite {c a b : E} {es : List E} {Q : List A × Loc → Prop} : Post (evAs Γ (.ite c a b :: es) l) Q ↔ Post (evX Γ (.ite c a b) l) fun r => Post (evAs Γ es r.2) fun r2 => Q (.dat r.1.d :: r2.1, r2.2) := p_As_cons rfl
@[simp] theorem p_As_chain {p q : Prim} {a b c : E} {es : List E} {Q : List A × Loc → Prop} : Post (evAs Γ (.chain p q a b c :: es) l) Q ↔ Post (evX Γ (.chain p q a b c) l) fun r => Post (evAs Γ es r.2) fun r2 => Q (.dat r.1.d :: r2.1, r2.2) := p_As_cons rfl
@[simp] theorem p_As_call {f : Nat} {rf : Option Nat} {pm : List Nat} {fs : List E} {es : List E} {Q : List A × Loc → Prop} : Post (evAs Γ (.call f rf pm fs :: es) l) Q ↔ Post (evX Γ (.call f rf pm fs) l) fun r => Post (evAs Γ es r.2) fun r2 => Q (.dat r.1.d :: r2.1, r2.2) := p_As_cons rfl
@[simp] theorem p_As_slc {a : E} {b1 b2 : Bool} {fs : List E} {es : List E} {Q : List A × Loc → Prop} : Post (evAs Γ (.slc a b1 b2 fs :: es) l) Q ↔ Post (evX Γ (.slc a b1 b2 fs) l) fun r => Post (evAs Γ es r.2) fun r2 => Q (.dat r.1.d :: r2.1, r2.2) := p_As_cons rfl
@[simp] theorem p_As_comp {e : E} {t : Tg} {k : Nat} {is fs : List E} {ws : List Nat} {es : List E} {Q : List A × Loc → Prop} : Post (evAs Γ (.comp e t k is fs ws :: es) l) Q ↔ Post (evX Γ (.comp e t k is fs ws) l) fun r => Post (evAs Γ es r.2) fun r2 => Q (.dat r.1.d :: r2.1, r2.2) := p_As_cons rfl
@[simp] theorem p_comp {elt : E} {tg : Tg} {ik : Nat} {ies ifs : List E} {ws : List Nat} {Q : Sl × Loc → Prop} : Post (evX Γ (.comp elt tg ik ies ifs ws) l) Q ↔ Post (evDs Γ ies l) fun r => On (items ik r.1) fun xs =>
    Post (compL (bindT tg) (evTs Γ ifs) (evX Γ elt) ws xs [] (wipeD r.2 ws)) fun p => Q (.own p.1, p.2) := by
  rw [evX.eq_def]; dsimp only
  rw [Post.bind]
  have : ∀ r : List D × Loc, Post (match items ik r.1 with | none => .bad | some xs => match compL (bindT tg) (evTs Γ ifs) (evX Γ elt) ws xs [] (wipeD r.2 ws) with
      | .ok (ds, l1) => .ok (.own ds, l1)
      | _ => .bad) Q ↔ On (items ik r.1) fun xs => Post (compL (bindT tg) (evTs Γ ifs) (evX Γ elt) ws xs [] (wipeD r.2 ws)) fun p => Q (.own p.1, p.2) := fun r => by
    cases items ik r.1 with
    | none => exact Iff.rfl
    | some xs => dsimp only [On]; cases compL (bindT tg) (evTs Γ ifs) (evX Γ elt) ws xs [] (wipeD r.2 ws) <;> exact Iff.rfl
  exact ⟨fun h => h.imp fun a q => (this a).mp q, fun h => h.imp fun a q => (this a).mpr q⟩
@[simp] theorem p_cpk {elt : E} {tg : Tg} {i : Nat} {ifs : List E} {ws : List Nat} {Q : Sl × Loc → Prop} : Post (evX Γ (.cpk elt tg i ifs ws) l) Q ↔ On (ownAt l i) fun ds => Post (compL (bindT tg) (evTs Γ ifs) (evX Γ elt) ws ds [] (wipeD (l.set i .un) ws)) fun p => i < p.2.length ∧ Q (.own p.1, p.2.set i (.own ds)) := by
  rw [evX.eq_def]; dsimp only
  cases ownAt l i with
  | none => exact Iff.rfl
  | some ds =>
    dsimp only [On]
    cases compL (bindT tg) (evTs Γ ifs) (evX Γ elt) ws ds [] (wipeD (l.set i .un) ws) with
    | ok p =>
      obtain ⟨rs, l1⟩ := p
      dsimp only
      by_cases h : i < l1.length
      · rw [if_pos h]; exact ⟨fun q => ⟨h, q⟩, fun q => q.2⟩
      · rw [if_neg h]; exact ⟨fun q => q.elim, fun q => h q.1⟩
    | exc x l => exact Iff.rfl
    | bad => exact Iff.rfl
@[simp] theorem p_As_cpk {e : E} {t : Tg} {i : Nat} {fs : List E} {ws : List Nat} {es : List E} {Q : List A × Loc → Prop} : Post (evAs Γ (.cpk e t i fs ws :: es) l) Q ↔ Post (evX Γ (.cpk e t i fs ws) l) fun r => Post (evAs Γ es r.2) fun r2 => Q (.dat r.1.d :: r2.1, r2.2) := p_As_cons rfl
@[simp] theorem p_Ts_nil {Q : Bool × Loc → Prop} : Post (evTs Γ [] l) Q ↔ Q (true, l) := by rw [evTs.eq_def]; exact Iff.rfl
@[simp] theorem p_Ts_one {e : E} {Q : Bool × Loc → Prop} : Post (evTs Γ [e] l) Q ↔ Post (evT Γ e l) Q := by rw [evTs.eq_def]
@[simp] theorem wipeD_nil (l : Loc) : wipeD l [] = l := rfl
@[simp] theorem wipeD_cons (l : Loc) (v : Nat) (vs : List Nat) : wipeD l (v :: vs) = (wipeD l vs).set v .un := rfl
theorem compL_inv {bd : D → Loc → Option Loc} {ts : Loc → R (Bool × Loc)} {el : Loc → R (Sl × Loc)} {ws : List Nat} {Q : List D × Loc → Prop} (I : List D → List D → Loc → Prop) {xs acc : List D} (h : I xs acc l)
    (step : ∀ d ds acc l, I (d :: ds) acc l → On (bd d (wipeD l ws)) fun l1 => Post (ts l1) fun r => If r.1 (Hd (el r.2) fun r2 => acc.length < 16777216 ∧ I ds (acc ++ [r2.1.d]) (wipeD r2.2 ws)) (Ap (I ds acc) (wipeD r.2 ws)))
    (done : ∀ acc l, I [] acc l → Q (acc, l)) : Post (compL bd ts el ws xs acc l) Q := by
  induction xs generalizing acc l with
  | nil => exact done acc l h
  | cons d ds ih =>
    have s := step d ds acc l h
    rw [compL]
    cases e : bd d (wipeD l ws) with
    | none => rw [e] at s; exact s.elim
    | some l1 =>
      rw [e] at s
      refine Post.bind.mpr (Post.imp s fun r q => ?_)
      cases hr : r.1 with
      | true =>
        rw [hr, If_tH] at q
        rw [if_pos rfl]
        refine Post.bind.mpr (q.imp fun r2 q2 => ?_)
        rw [if_pos q2.1]
        exact ih q2.2
      | false =>
        rw [hr, If_fA] at q
        rw [if_neg Bool.false_ne_true]
        exact ih q
/-- without tests, by the place: every item gives one -/
theorem compL_map {bd : D → Loc → Option Loc} {el : Loc → R (Sl × Loc)} {ws : List Nat} {Q : List D × Loc → Prop} (I : Loc → Prop) (G : Nat → D → Prop) {xs : List D} (h : I l) (hl : xs.length ≤ 16777216)
    (step : ∀ i d l, xs[i]? = some d → I l → On (bd d (wipeD l ws)) fun l1 => Post (el l1) fun r2 => G i r2.1.d ∧ I (wipeD r2.2 ws))
    (done : ∀ ys l, ys.length = xs.length → (∀ i y, ys[i]? = some y → G i y) → I l → Q (ys, l)) : Post (compL bd (evTs Γ []) el ws xs [] l) Q := by
  refine compL_inv (fun ds acc l => ∃ i, ds = xs.drop i ∧ acc.length = i ∧ i ≤ xs.length ∧ (∀ j y, acc[j]? = some y → G j y) ∧ I l) ⟨0, rfl, rfl, Nat.zero_le _, fun j y e => by simp at e, h⟩ (fun d ds acc l hh => ?_) (fun acc l hh => ?_)
  · obtain ⟨i, e, ha, hi, hG, hI⟩ := hh
    have lt : i < xs.length := by
      rcases Nat.lt_or_ge i xs.length with q | q
      · exact q
      · rw [List.drop_of_length_le q] at e; cases e
    rw [List.drop_eq_getElem_cons lt] at e
    injection e with e1 e2
    have s := step i d l (by rw [List.getElem?_eq_getElem lt, e1]) hI
    cases eb : bd d (wipeD l ws) with
    | none => rw [eb] at s; exact s
    | some l1 =>
      rw [eb] at s
      show Post (evTs Γ [] l1) _
      rw [p_Ts_nil]
      rw [If_tH]
      refine Post.imp s fun r q => ⟨by omega, i + 1, e2, by simp [ha], lt, fun j y ej => ?_, q.2⟩
      rw [List.getElem?_append] at ej
      split at ej
      · exact hG j y ej
      · rename_i hj
        have : j = i := by
          have := (List.getElem?_eq_some_iff.mp ej).1
          simp at this; omega
        subst this
        rw [show j - acc.length = 0 by omega] at ej
        have := Option.some.inj ej
        rw [← this]; exact q.1
  · obtain ⟨i, e, ha, hi, hG, hI⟩ := hh
    have : i = xs.length := by
      have := congrArg List.length e
      rw [List.length_drop, List.length_nil] at this
      omega
    exact done acc l (by omega) hG hI
end
end DL

set_option Elab.async false
set_option linter.all false
set_option maxRecDepth 100000
set_option maxHeartbeats 4000000
namespace DL
open PySem PySem.Spec PyProof.Rows L2

section
variable {α β : Type} {Γ : Gam} {l : Loc} {Q : Fl × Loc → Prop}
theorem post_iff {r : R α} {Q Q' : α → Prop} (h : ∀ a, Q a ↔ Q' a) : Post r Q ↔ Post r Q' := ⟨fun q => q.imp fun a => (h a).mp, fun q => q.imp fun a => (h a).mpr⟩
theorem bind_iff {r : R α} {f : α → R β} {Q : β → Prop} {Q' : α → Prop} (h : ∀ a, Post (f a) Q ↔ Q' a) : Post (r.bind f) Q ↔ Post r Q' := Post.bind.trans (post_iff h)
theorem ite_bad {c : Prop} [Decidable c] {a : α} {Q : α → Prop} : Post (if c then .ok a else .bad) Q ↔ c ∧ Q a := by
  by_cases h : c
  · rw [if_pos h]; exact ⟨fun q => ⟨h, q⟩, fun q => q.2⟩
  · rw [if_neg h]; exact ⟨fun q => q.elim, fun q => h q.1⟩
theorem ite_bad' {c : Prop} [Decidable c] {r : R α} {Q : α → Prop} : Post (if c then r else .bad) Q ↔ c ∧ Post r Q := by
  by_cases h : c
  · rw [if_pos h]; exact ⟨fun q => ⟨h, q⟩, fun q => q.2⟩
  · rw [if_neg h]; exact ⟨fun q => q.elim, fun q => h q.1⟩
def seqQ (Γ : Gam) (ss : List S) (Q : Fl × Loc → Prop) : Fl × Loc → Prop := fun r => match r.1 with
  | .nx => Post (exB Γ ss r.2) Q
  | f => Q (f, r.2)
@[simp] theorem seqQ_nx (ss : List S) {s : Sl} : seqQ Γ ss Q (.nx, s :: l) = Post (exB Γ ss (s :: l)) Q := propext Iff.rfl
@[simp] theorem seqQ_brk (ss : List S) : seqQ Γ ss Q (.brk, l) = Q (.brk, l) := propext Iff.rfl
@[simp] theorem seqQ_cnt (ss : List S) : seqQ Γ ss Q (.cnt, l) = Q (.cnt, l) := propext Iff.rfl
@[simp] theorem seqQ_ret (ss : List S) (s : Sl) : seqQ Γ ss Q (.ret s, l) = Q (.ret s, l) := propext Iff.rfl
@[simp] theorem b_nil : Post (exB Γ [] l) Q ↔ Q (.nx, l) := by rw [exB.eq_def]; exact Iff.rfl
@[simp] theorem b_cons {s : S} {ss : List S} : Post (exB Γ (s :: ss) l) Q ↔ Post (exS Γ s l) (seqQ Γ ss Q) := by
  rw [exB.eq_def]; dsimp only
  refine bind_iff fun r => ?_
  obtain ⟨f, l⟩ := r
  cases f <;> exact Iff.rfl
def Ni (d : D) (Q : Int → Prop) : Prop := match d with
  | .int i => Q i
  | _ => False
@[simp] theorem Ni_int (i : Int) (Q : Int → Prop) : Ni (.int i) Q = Q i := propext Iff.rfl
@[simp] theorem s_set {i : Nat} {e : E} : Post (exS Γ (.set i e) l) Q ↔ Post (evX Γ e l) fun r => i < r.2.length ∧ Q (.nx, r.2.set i r.1) := by
  rw [exS.eq_def]; dsimp only
  exact bind_iff fun r => ite_bad
@[simp] theorem s_asg {t : Tg} {e : E} : Post (exS Γ (.asg t e) l) Q ↔ Post (evX Γ e l) fun r => On (bindT t r.1.d r.2) fun l1 => Q (.nx, l1) := by
  rw [exS.eq_def]; dsimp only
  exact bind_iff fun r => by cases bindT t r.1.d r.2 <;> exact Iff.rfl
@[simp] theorem s_par {is : List Nat} {es : List E} : Post (exS Γ (.par is es) l) Q ↔ Post (evSs Γ es l) fun r => On (setAll r.2 is r.1) fun l1 => Q (.nx, l1) := by
  rw [exS.eq_def]; dsimp only
  exact bind_iff fun r => by cases setAll r.2 is r.1 <;> exact Iff.rfl
@[simp] theorem s_aug {i : Nat} {p : Prim} {e : E} : Post (exS Γ (.aug i p e) l) Q ↔ On (res l (.pos i)) fun _ => Post (evX Γ e l) fun r => On (res r.2 (.pos i)) fun d => On (augD p d r.1.d) fun x => i < r.2.length ∧ Q (.nx, r.2.set i (.val (.int x))) := by
  rw [exS.eq_def]; dsimp only
  cases res l (.pos i) with
  | none => exact Iff.rfl
  | some d0 =>
    refine bind_iff fun r => ?_
    cases res r.2 (.pos i) with
    | none => exact Iff.rfl
    | some d =>
      dsimp only [On]
      cases augD p d r.1.d with
      | none => exact Iff.rfl
      | some x => exact ite_bad
@[simp] theorem s_setix {i : Nat} {k e : E} : Post (exS Γ (.setix i k e) l) Q ↔ Post (evX Γ e l) fun r => On (ownAt r.2 i) fun _ => Post (evX Γ k r.2) fun r1 => On (ownAt r1.2 i) fun ds => Ni r1.1.d fun j => On (ixN ds.length j) fun m => Q (.nx, r1.2.set i (.own (ds.set m r.1.d))) := by
  rw [exS.eq_def]; dsimp only
  refine bind_iff fun r => ?_
  cases ownAt r.2 i with
  | none => exact Iff.rfl
  | some ds0 =>
    refine bind_iff fun r1 => ?_
    cases ownAt r1.2 i with
    | none => cases r1.1.d <;> exact Iff.rfl
    | some ds =>
      cases r1.1.d with
      | int j => dsimp only [On, Ni]; cases ixN ds.length j <;> exact Iff.rfl
      | _ => exact Iff.rfl
@[simp] theorem s_augix {i : Nat} {k e : E} {p : Prim} : Post (exS Γ (.augix i k p e) l) Q ↔ On (ownAt l i) fun _ => Post (evX Γ k l) fun r => On (ownAt r.2 i) fun ds => Ni r.1.d fun j => On (atI ds j) fun d => Post (evX Γ e r.2) fun r1 => On (ownAt r1.2 i) fun ds1 => On (augD p d r1.1.d) fun x => On (ixN ds1.length j) fun m => Q (.nx, r1.2.set i (.own (ds1.set m (.int x)))) := by
  rw [exS.eq_def]; dsimp only
  cases ownAt l i with
  | none => exact Iff.rfl
  | some ds0 =>
    refine bind_iff fun r => ?_
    cases ownAt r.2 i with
    | none => cases r.1.d <;> exact Iff.rfl
    | some ds =>
      cases r.1.d with
      | int j =>
        dsimp only [On, Ni]
        cases atI ds j with
        | none => exact Iff.rfl
        | some d =>
          refine bind_iff fun r1 => ?_
          cases ownAt r1.2 i with
          | none => cases augD p d r1.1.d <;> exact Iff.rfl
          | some ds1 =>
            dsimp only [On]
            cases augD p d r1.1.d with
            | none => exact Iff.rfl
            | some x => dsimp only; cases ixN ds1.length j <;> exact Iff.rfl
      | _ => exact Iff.rfl
@[simp] theorem s_app {i : Nat} {e : E} : Post (exS Γ (.app i e) l) Q ↔ On (ownAt l i) fun _ => Post (evX Γ e l) fun r => On (ownAt r.2 i) fun ds => ds.length < 16777216 ∧ Q (.nx, r.2.set i (.own (ds ++ [r.1.d]))) := by
  rw [exS.eq_def]; dsimp only
  cases ownAt l i with
  | none => exact Iff.rfl
  | some ds0 =>
    refine bind_iff fun r => ?_
    cases ownAt r.2 i with
    | none => exact Iff.rfl
    | some ds => exact ite_bad
@[simp] theorem s_ex {e : E} : Post (exS Γ (.ex e) l) Q ↔ Post (evX Γ e l) fun r => Q (.nx, r.2) := by
  rw [exS.eq_def]; dsimp only
  exact bind_iff fun r => Iff.rfl
@[simp] theorem s_ite {c : E} {a b : List S} : Post (exS Γ (.ite c a b) l) Q ↔ Post (evT Γ c l) fun r => If r.1 (Hd (exB Γ a r.2) Q) (Hd (exB Γ b r.2) Q) := by
  rw [exS.eq_def]; dsimp only
  exact bind_iff fun r => post_ite
@[simp] theorem s_whl {c : E} {b : List S} : Post (exS Γ (.whl c b) l) Q ↔ Post (whileL (evT Γ c) (exB Γ b) whileFuel l) Q := by
  rw [exS.eq_def]
@[simp] theorem s_fer {t : Tg} {ik : Nat} {ies : List E} {b : List S} : Post (exS Γ (.fer t ik ies b) l) Q ↔ Post (evDs Γ ies l) fun r => On (items ik r.1) fun xs => Post (forL (bindT t) (exB Γ b) xs r.2) Q := by
  rw [exS.eq_def]; dsimp only
  exact bind_iff fun r => by cases items ik r.1 <;> exact Iff.rfl
@[simp] theorem s_ret {e : E} : Post (exS Γ (.ret e) l) Q ↔ Post (evX Γ e l) fun r => Q (.ret r.1, r.2) := by
  rw [exS.eq_def]; dsimp only
  exact bind_iff fun r => Iff.rfl
@[simp] theorem s_retv {i : Nat} : Post (exS Γ (.retv i) l) Q ↔ On l[i]? fun s => match s with
    | .own ds => Q (.ret (.own ds), l.set i .un)
    | .val d => Q (.ret (.val d), l)
    | .nst cs => Q (.ret (.nst cs), l.set i .un)
    | .un => False := by
  rw [exS.eq_def]; dsimp only
  cases l[i]? with
  | none => exact Iff.rfl
  | some s => cases s <;> exact Iff.rfl
@[simp] theorem s_brk : Post (exS Γ .brk l) Q ↔ Q (.brk, l) := by rw [exS.eq_def]; exact Iff.rfl
@[simp] theorem s_cnt : Post (exS Γ .cnt l) Q ↔ Q (.cnt, l) := by rw [exS.eq_def]; exact Iff.rfl
@[simp] theorem s_pas : Post (exS Γ .pas l) Q ↔ Q (.nx, l) := by rw [exS.eq_def]; exact Iff.rfl

/-! ### loops -/
def loopQ (I : Loc → Prop) (Q : Fl × Loc → Prop) : Fl × Loc → Prop := fun r => match r.1 with
  | .nx => I r.2
  | .cnt => I r.2
  | .brk => Q (.nx, r.2)
  | .ret s => Q (.ret s, r.2)
@[simp] theorem loopQ_nx (I : Loc → Prop) : loopQ I Q (.nx, l) = I l := propext Iff.rfl
@[simp] theorem loopQ_cnt (I : Loc → Prop) : loopQ I Q (.cnt, l) = I l := propext Iff.rfl
@[simp] theorem loopQ_brk (I : Loc → Prop) : loopQ I Q (.brk, l) = Q (.nx, l) := propext Iff.rfl
@[simp] theorem loopQ_ret (I : Loc → Prop) (s : Sl) : loopQ I Q (.ret s, l) = Q (.ret s, l) := propext Iff.rfl
theorem forL_nil {bd : D → Loc → Option Loc} {body : Loc → R (Fl × Loc)} : Post (forL bd body [] l) Q ↔ Q (.nx, l) := Iff.rfl
theorem forL_cons {bd : D → Loc → Option Loc} {body : Loc → R (Fl × Loc)} {d : D} {ds : List D} : Post (forL bd body (d :: ds) l) Q ↔ On (bd d l) fun l1 => Post (body l1) (loopQ (fun l2 => Post (forL bd body ds l2) Q) Q) := by
  rw [forL]
  cases bd d l with
  | none => exact Iff.rfl
  | some l1 =>
    refine bind_iff fun r => ?_
    obtain ⟨f, l2⟩ := r
    cases f <;> exact Iff.rfl
theorem loopQ_imp {I I' : Loc → Prop} (h : ∀ l, I l → I' l) (r : Fl × Loc) (q : loopQ I Q r) : loopQ I' Q r := by
  obtain ⟨f, l⟩ := r
  cases f with
  | nx => exact h _ q
  | cnt => exact h _ q
  | brk => exact q
  | ret s => exact q
theorem forL_inv {bd : D → Loc → Option Loc} {body : Loc → R (Fl × Loc)} (I : List D → Loc → Prop) {xs : List D} (h : I xs l) (step : ∀ d ds l, I (d :: ds) l → On (bd d l) fun l1 => Post (body l1) (loopQ (I ds) Q)) (done : ∀ l, I [] l → Q (.nx, l)) : Post (forL bd body xs l) Q := by
  induction xs generalizing l with
  | nil => exact done l h
  | cons d ds ih =>
    rw [forL_cons]
    have s := step d ds l h
    cases e : bd d l with
    | none => rw [e] at s; exact s.elim
    | some l1 =>
      rw [e] at s
      exact Post.imp s fun r q => loopQ_imp (fun l2 h2 => ih h2) r q
/-- as forL_inv, by the place -/
theorem forL_ix {bd : D → Loc → Option Loc} {body : Loc → R (Fl × Loc)} (I : Nat → Loc → Prop) {xs : List D} (h : I 0 l) (step : ∀ i d l, xs[i]? = some d → I i l → On (bd d l) fun l1 => Post (body l1) (loopQ (I (i + 1)) Q)) (done : ∀ l, I xs.length l → Q (.nx, l)) : Post (forL bd body xs l) Q := by
  refine forL_inv (fun ds l => ∃ i, ds = xs.drop i ∧ i ≤ xs.length ∧ I i l) ⟨0, rfl, Nat.zero_le _, h⟩ (fun d ds l ⟨i, e, hi, hI⟩ => ?_) (fun l ⟨i, e, hi, hI⟩ => ?_)
  · have lt : i < xs.length := by
      rcases Nat.lt_or_ge i xs.length with q | q
      · exact q
      · rw [List.drop_of_length_le q] at e; cases e
    rw [List.drop_eq_getElem_cons lt] at e
    injection e with e1 e2
    have s := step i d l (by rw [List.getElem?_eq_getElem lt, e1]) hI
    cases eb : bd d l with
    | none => rw [eb] at s; exact s
    | some l1 =>
      rw [eb] at s
      exact Post.imp s fun r q => loopQ_imp (fun l2 h2 => ⟨i + 1, e2, lt, h2⟩) r q
  · have : i = xs.length := by
      have := congrArg List.length e
      rw [List.length_drop, List.length_nil] at this
      omega
    subst this
    exact done l hI
theorem whileL_inv {c : Loc → R (Bool × Loc)} {body : Loc → R (Fl × Loc)} (I : Nat → Loc → Prop) {n m : Nat} (hm : m < n) (h : I m l)
    (step : ∀ m l, I m l → Post (c l) fun r => If r.1 (Hd (body r.2) (loopQ (fun l2 => ∃ k, k < m ∧ I k l2) Q)) (Ap Q (.nx, r.2))) : Post (whileL c body n l) Q := by
  induction n generalizing l m with
  | zero => omega
  | succ n ih =>
    rw [whileL]
    refine Post.bind.mpr ((step m l h).imp fun r q => ?_)
    cases hr : r.1 with
    | true =>
      rw [hr, If_tH] at q
      rw [if_pos rfl]
      refine Post.bind.mpr (q.imp fun r2 q2 => ?_)
      obtain ⟨f, l2⟩ := r2
      cases f with
      | nx => obtain ⟨k, hk, q3⟩ := q2; exact ih (show k < n by omega) q3
      | cnt => obtain ⟨k, hk, q3⟩ := q2; exact ih (show k < n by omega) q3
      | brk => exact q2
      | ret s => exact q2
    | false =>
      rw [hr, If_fA] at q
      rw [if_neg Bool.false_ne_true]
      exact q
/-! ### defs -/
def endQ (np : Nat) (rf : Option Nat) (Q : Sl × List Sl → Prop) : Fl × Loc → Prop := fun r => match r.1 with
  | .nx => On (outsOf r.2 np rf) fun o => Q (.val .non, o)
  | .ret s => On (outsOf r.2 np rf) fun o => Q (s, o)
  | _ => False
@[simp] theorem endQ_nx {np : Nat} {rf : Option Nat} {Q : Sl × List Sl → Prop} : endQ np rf Q (.nx, l) = On (outsOf l np rf) fun o => Q (.val .non, o) := propext Iff.rfl
@[simp] theorem endQ_ret {np : Nat} {rf : Option Nat} {Q : Sl × List Sl → Prop} {s : Sl} : endQ np rf Q (.ret s, l) = On (outsOf l np rf) fun o => Q (s, o) := propext Iff.rfl
@[simp] theorem endQ_brk {np : Nat} {rf : Option Nat} {Q : Sl × List Sl → Prop} : endQ np rf Q (.brk, l) = False := propext Iff.rfl
@[simp] theorem endQ_cnt {np : Nat} {rf : Option Nat} {Q : Sl × List Sl → Prop} : endQ np rf Q (.cnt, l) = False := propext Iff.rfl
theorem post_run {fd : FD} {args : List Sl} {Q : Sl × List Sl → Prop} : Post (runF Γ fd args) Q ↔ args.length = fd.np ∧ Post (exB Γ fd.body (args ++ List.replicate (fd.nl - fd.np) .un)) (endQ fd.np fd.rf Q) := by
  unfold runF
  rw [ite_bad']
  refine and_congr Iff.rfl ?_
  cases exB Γ fd.body (args ++ List.replicate (fd.nl - fd.np) .un) with
  | bad => exact Iff.rfl
  | exc x l => exact Iff.rfl
  | ok r =>
    obtain ⟨f, l⟩ := r
    cases f with
    | nx => dsimp only; rw [Post_ok, endQ_nx]; cases outsOf l fd.np fd.rf <;> exact Iff.rfl
    | brk => exact Iff.rfl
    | cnt => exact Iff.rfl
    | ret s => dsimp only; rw [Post_ok, endQ_ret]; cases outsOf l fd.np fd.rf <;> exact Iff.rfl
theorem post_fn {P : Nat → Option FD} {f n : Nat} {fd : FD} {args : List Sl} {Q : Sl × List Sl → Prop} (h : P f = some fd) : Post (callF P (n + 1) f args) Q ↔ args.length = fd.np ∧ Post (exB (callF P n) fd.body (args ++ List.replicate (fd.nl - fd.np) .un)) (endQ fd.np fd.rf Q) := by
  rw [callF, h]; exact post_run
end

/-! ### operations -/
@[simp] theorem o_add (i j : Int) : primD .add [.int i, .int j] = some (.val (.int (i + j))) := rfl
@[simp] theorem o_sub (i j : Int) : primD .sub [.int i, .int j] = some (.val (.int (i - j))) := rfl
@[simp] theorem o_neg (i : Int) : primD .neg [.int i] = some (.val (.int (-i))) := rfl
@[simp] theorem o_lt (i j : Int) : primD .lt [.int i, .int j] = some (.val (.bl (decide (i < j)))) := rfl
@[simp] theorem o_le (i j : Int) : primD .le [.int i, .int j] = some (.val (.bl (decide (i ≤ j)))) := rfl
@[simp] theorem o_gt (i j : Int) : primD .gt [.int i, .int j] = some (.val (.bl (decide (j < i)))) := rfl
@[simp] theorem o_ge (i j : Int) : primD .ge [.int i, .int j] = some (.val (.bl (decide (j ≤ i)))) := rfl
@[simp] theorem o_abs (i : Int) : primD .abs [.int i] = some (.val (.int (if i < 0 then -i else i))) := rfl
@[simp] theorem o_int (i : Int) : primD .int [.int i] = some (.val (.int i)) := rfl
@[simp] theorem o_intb (b : Bool) : primD .int [.bl b] = some (.val (.int (if b = true then 1 else 0))) := rfl
@[simp] theorem o_lenT (xs : List D) : primD .len [.tup xs] = some (.val (.int xs.length)) := rfl
@[simp] theorem o_lenL (xs : List D) : primD .len [.lst xs] = some (.val (.int xs.length)) := rfl
@[simp] theorem o_lstT (xs : List D) : primD .lst [.tup xs] = some (.own xs) := rfl
@[simp] theorem o_lstL (xs : List D) : primD .lst [.lst xs] = some (.own xs) := rfl
@[simp] theorem o_tupT (xs : List D) : primD .tup [.tup xs] = some (.val (.tup xs)) := rfl
@[simp] theorem o_tupL (xs : List D) : primD .tup [.lst xs] = some (.val (.tup xs)) := rfl
@[simp] theorem o_ixT (xs : List D) (i : Int) : primD .ix [.tup xs, .int i] = (atI xs i).map .val := rfl
@[simp] theorem o_ixL (xs : List D) (i : Int) : primD .ix [.lst xs, .int i] = (atI xs i).map .val := rfl
@[simp] theorem o_mn (i j : Int) : primD .mn [.int i, .int j] = some (.val (.int (if j < i then j else i))) := rfl
@[simp] theorem o_mx (i j : Int) : primD .mx [.int i, .int j] = some (.val (.int (if i < j then j else i))) := rfl
@[simp] theorem o_iz (d : D) : primD .iz [d, .non] = some (.val (.bl (isNonD d))) := by cases d <;> rfl
@[simp] theorem o_izn (d : D) : primD .izn [d, .non] = some (.val (.bl (!isNonD d))) := by cases d <;> rfl
@[simp] theorem o_izb (a b : Bool) : primD .iz [.bl a, .bl b] = some (.val (.bl (decide (a = b)))) := rfl
@[simp] theorem o_iznb (a b : Bool) : primD .izn [.bl a, .bl b] = some (.val (.bl (!decide (a = b)))) := rfl
@[simp] theorem isNonD_non : isNonD .non = true := rfl
@[simp] theorem isNonD_int (i : Int) : isNonD (.int i) = false := rfl
@[simp] theorem isNonD_bl (i : Bool) : isNonD (.bl i) = false := rfl
@[simp] theorem isNonD_tup (i : List D) : isNonD (.tup i) = false := rfl
@[simp] theorem isNonD_lst (i : List D) : isNonD (.lst i) = false := rfl
@[simp] theorem isNonD_str (i : Str) : isNonD (.str i) = false := rfl
theorem On_ite {α : Type} {c : Prop} [Decidable c] {a : α} {Q : α → Prop} : On (if c then some a else none) Q ↔ c ∧ Q a := by
  by_cases h : c
  · rw [if_pos h]; exact ⟨fun q => ⟨h, q⟩, fun q => q.2⟩
  · rw [if_neg h]; exact ⟨fun q => q.elim, fun q => h q.1⟩
@[simp] theorem On_map {α β : Type} {o : Option α} {f : α → β} {Q : β → Prop} : On (o.map f) Q ↔ On o fun a => Q (f a) := by cases o <;> exact Iff.rfl
section
variable {Q : Sl → Prop}
@[simp] theorem o_mul (i j : Int) : On (primD .mul [.int i, .int j]) Q ↔ mulOk i j = true ∧ Q (.val (.int (i * j))) := On_ite
@[simp] theorem o_fdiv (i j : Int) : On (primD .fdiv [.int i, .int j]) Q ↔ (j ≠ 0 ∧ j.natAbs.log2 < 9000) ∧ Q (.val (.int (i.fdiv j))) := On_ite
@[simp] theorem o_mod (i j : Int) : On (primD .mod [.int i, .int j]) Q ↔ j ≠ 0 ∧ Q (.val (.int (i.fmod j))) := On_ite
@[simp] theorem o_pow (i j : Int) : On (primD .pow [.int i, .int j]) Q ↔ (0 ≤ j ∧ j ≤ 1000000 ∧ i.natAbs < 2 ^ 64) ∧ Q (.val (.int (i ^ j.toNat))) := On_ite
@[simp] theorem o_addT (xs ys : List D) : On (primD .add [.tup xs, .tup ys]) Q ↔ xs.length + ys.length ≤ 16777216 ∧ Q (.val (.tup (xs ++ ys))) := On_ite
@[simp] theorem o_addL (xs ys : List D) : On (primD .add [.lst xs, .lst ys]) Q ↔ xs.length + ys.length ≤ 16777216 ∧ Q (.own (xs ++ ys)) := On_ite
@[simp] theorem o_ist (T : Nat) (d : D) : On (primD (.ist T) [d]) Q ↔ T < 5 ∧ Q (.val (.bl (istD T d))) := On_ite
@[simp] theorem o_eq (d e : D) : On (primD .eq [d, e]) Q ↔ (okEq d && okEq e) = true ∧ Q (.val (.bl (eqD d e))) := On_ite
@[simp] theorem o_ne (d e : D) : On (primD .ne [d, e]) Q ↔ (okEq d && okEq e) = true ∧ Q (.val (.bl (!eqD d e))) := On_ite
end
@[simp] theorem okEq_int (i : Int) : okEq (.int i) = true := rfl
@[simp] theorem okEq_bl (i : Bool) : okEq (.bl i) = true := rfl
@[simp] theorem okEq_non : okEq .non = true := rfl
@[simp] theorem eqD_int (i j : Int) : eqD (.int i) (.int j) = decide (i = j) := by
  unfold eqD
  rw [toPy, toPy, PyData.eqv]
  by_cases h : i = j <;> simp [h]
@[simp] theorem eqD_bl (a b : Bool) : eqD (.bl a) (.bl b) = decide (a = b) := by
  unfold eqD
  rw [toPy, toPy, PyData.eqv]
  cases a <;> cases b <;> rfl
@[simp] theorem truth_bl (b : Bool) : truth (.bl b) = some b := rfl
@[simp] theorem truth_int (i : Int) : truth (.int i) = some (i != 0) := rfl
@[simp] theorem truth_non : truth .non = some false := rfl
@[simp] theorem truth_tup (ds : List D) : truth (.tup ds) = some !ds.isEmpty := rfl
@[simp] theorem truth_lst (ds : List D) : truth (.lst ds) = some !ds.isEmpty := rfl
theorem atI_nat' {α : Type} (xs : List α) (n : Nat) : atI xs (n : Int) = xs[n]? := by
  unfold atI ixN
  rw [if_pos (Int.natCast_nonneg n)]
  by_cases h : (n : Int) < xs.length
  · rw [if_pos h]; rfl
  · rw [if_neg h, List.getElem?_eq_none (by omega)]; rfl
@[simp] theorem atI_0 {α : Type} (x : α) (xs : List α) : atI (x :: xs) 0 = some x := atI_nat' (x :: xs) 0
@[simp] theorem atI_1 {α : Type} (x y : α) (xs : List α) : atI (x :: y :: xs) 1 = some y := atI_nat' (x :: y :: xs) 1
@[simp] theorem atI_2 {α : Type} (a b c : α) (xs : List α) : atI (a :: b :: c :: xs) 2 = some c := atI_nat' _ 2
@[simp] theorem atI_3 {α : Type} (a b c d : α) (xs : List α) : atI (a :: b :: c :: d :: xs) 3 = some d := atI_nat' _ 3
@[simp] theorem atI_4 {α : Type} (a b c d e : α) (xs : List α) : atI (a :: b :: c :: d :: e :: xs) 4 = some e := atI_nat' _ 4
@[simp] theorem atI_5 {α : Type} (a b c d e f : α) (xs : List α) : atI (a :: b :: c :: d :: e :: f :: xs) 5 = some f := atI_nat' _ 5
theorem ixN_lit {n : Nat} {k : Nat} (h : k < n) : ixN n (k : Int) = some k := by
  unfold ixN
  rw [if_pos (Int.natCast_nonneg k), if_pos (by omega)]; rfl
@[simp] theorem ixN_0 (n : Nat) : ixN (n + 1) 0 = some 0 := ixN_lit (k := 0) (by omega)
@[simp] theorem ixN_1 (n : Nat) : ixN (n + 1 + 1) 1 = some 1 := ixN_lit (k := 1) (by omega)
@[simp] theorem ixN_2 (n : Nat) : ixN (n + 1 + 1 + 1) 2 = some 2 := ixN_lit (k := 2) (by omega)
@[simp] theorem ixN_3 (n : Nat) : ixN (n + 1 + 1 + 1 + 1) 3 = some 3 := ixN_lit (k := 3) (by omega)
@[simp] theorem ixN_4 (n : Nat) : ixN (n + 1 + 1 + 1 + 1 + 1) 4 = some 4 := ixN_lit (k := 4) (by omega)
@[simp] theorem ixN_5 (n : Nat) : ixN (n + 1 + 1 + 1 + 1 + 1 + 1) 5 = some 5 := ixN_lit (k := 5) (by omega)
@[simp] theorem augD_add (i j : Int) : augD .add (.int i) (.int j) = some (i + j) := rfl
@[simp] theorem augD_sub (i j : Int) : augD .sub (.int i) (.int j) = some (i - j) := rfl
section
variable {l : Loc} {d : D} {ds : List D} {s : Sl} {i : Nat}
@[simp] theorem res_dat : res l (.dat d) = some d := rfl
@[simp] theorem res_v : res (.val d :: l) (.pos 0) = some d := rfl
@[simp] theorem res_o : res (.own ds :: l) (.pos 0) = some (.lst ds) := rfl
@[simp] theorem res_s : res (s :: l) (.pos (i + 1)) = res l (.pos i) := rfl
@[simp] theorem resL_nil : resL l [] = some [] := rfl
@[simp] theorem resL_cons {a : A} {as : List A} {Q : List D → Prop} : On (resL l (a :: as)) Q ↔ On (res l a) fun d => On (resL l as) fun ds => Q (d :: ds) := by
  rw [resL]
  cases res l a with
  | none => exact Iff.rfl
  | some d => cases resL l as <;> exact Iff.rfl
@[simp] theorem ownAt_o : ownAt (.own ds :: l) 0 = some ds := rfl
@[simp] theorem ownAt_s : ownAt (s :: l) (i + 1) = ownAt l i := rfl
@[simp] theorem setAll_nil : setAll l [] [] = some l := rfl
@[simp] theorem setAll_cons {is : List Nat} {ss : List Sl} {Q : Loc → Prop} : On (setAll l (i :: is) (s :: ss)) Q ↔ i < l.length ∧ On (setAll (l.set i s) is ss) Q := by
  rw [setAll]
  by_cases h : i < l.length
  · rw [if_pos h]; exact ⟨fun q => ⟨h, q⟩, fun q => q.2⟩
  · rw [if_neg h]; exact ⟨fun q => q.elim, fun q => h q.1⟩
@[simp] theorem bind_name {Q : Loc → Prop} : On (bindT (.name i) d l) Q ↔ i < l.length ∧ Q (l.set i (.val d)) := by
  rw [bindT]
  by_cases h : i < l.length
  · rw [if_pos h]; exact ⟨fun q => ⟨h, q⟩, fun q => q.2⟩
  · rw [if_neg h]; exact ⟨fun q => q.elim, fun q => h q.1⟩
@[simp] theorem bind_tup {ts : List Tg} : bindT (.tup ts) (.tup ds) l = bindT.bindTs ts ds l := by rw [bindT]
@[simp] theorem bind_nil : bindT.bindTs [] [] l = some l := by rw [bindT.bindTs]
@[simp] theorem bind_cons {t : Tg} {ts : List Tg} {Q : Loc → Prop} : On (bindT.bindTs (t :: ts) (d :: ds) l) Q ↔ On (bindT t d l) fun l1 => On (bindT.bindTs ts ds l1) Q := by
  rw [bindT.bindTs]
  cases bindT t d l <;> exact Iff.rfl
end
section
variable {l : Loc} {as : List A} {pm : List Nat} {s : Sl} {d : D} {ds : List D} {outs r : List Sl} {rf : Option Nat} {i j k : Nat}
def aftN (l : Loc) (as : List A) (pm : List Nat) (s : Sl) : Loc := if (peeks l none as 0 pm).isEmpty || nolst s.d then l else demotes l (peeks l none as 0 pm)
@[simp] theorem after_none : after l none as pm s outs = some (aftN l as pm s) := rfl
@[simp] theorem aftN_val : aftN l as pm (.val d) = if (peeks l none as 0 pm).isEmpty || nolst d then l else demotes l (peeks l none as 0 pm) := rfl
@[simp] theorem aftN_own : aftN l as pm (.own ds) = if (peeks l none as 0 pm).isEmpty || nolst (.lst ds) then l else demotes l (peeks l none as 0 pm) := rfl
def aftS (l : Loc) (as : List A) (pm : List Nat) (s : Sl) (j : Nat) (ds : List D) : Option Loc := match refAt (some j) as pm with
  | some i => if (peeks l (some j) as 0 pm).contains i then none else
      some (if (peeks l (some j) as 0 pm).isEmpty || (nolst s.d && nolstL ds) then l.set i (.own ds) else demotes (l.set i (.own ds)) (peeks l (some j) as 0 pm))
  | none => none
theorem after_own (h : outs[j]? = some (.own ds)) : after l (some j) as pm s outs = aftS l as pm s j ds := by
  unfold after aftS
  cases e : refAt (some j) as pm with
  | none => rfl
  | some i => dsimp only; rw [h]
def aftC (l : Loc) (as : List A) (pm : List Nat) (s : Sl) (j : Nat) (cs : List Cl) : Option Loc := match refAt (some j) as pm with
  | some i => if (peeks l (some j) as 0 pm).contains i then none else
      some (if (peeks l (some j) as 0 pm).isEmpty || (nolst s.d && cs.all Cl.nol) then l.set i (.nst cs) else demotes (l.set i (.nst cs)) (peeks l (some j) as 0 pm))
  | none => none
theorem after_nst {cs : List Cl} (h : outs[j]? = some (.nst cs)) : after l (some j) as pm s outs = aftC l as pm s j cs := by
  unfold after aftC
  cases e : refAt (some j) as pm with
  | none => rfl
  | some i => dsimp only; rw [h]
@[simp] theorem after_0n {cs : List Cl} : after l (some 0) as pm s (.nst cs :: r) = aftC l as pm s 0 cs := after_nst rfl
@[simp] theorem after_1n {cs : List Cl} : after l (some 1) as pm s (.un :: .nst cs :: r) = aftC l as pm s 1 cs := after_nst rfl
@[simp] theorem aftC_eq {cs : List Cl} : aftC l as pm s j cs = match refAt (some j) as pm with
    | some i => if (peeks l (some j) as 0 pm).contains i then none else
      some (if (peeks l (some j) as 0 pm).isEmpty || (nolst s.d && cs.all Cl.nol) then l.set i (.nst cs) else demotes (l.set i (.nst cs)) (peeks l (some j) as 0 pm))
    | none => none := rfl
@[simp] theorem argOf_nn {cs : List Cl} : argOf (.nst cs :: l) true (.pos 0) = some (.nst cs) := rfl
@[simp] theorem after_0 : after l (some 0) as pm s (.own ds :: r) = aftS l as pm s 0 ds := after_own rfl
@[simp] theorem after_1 : after l (some 1) as pm s (.un :: .own ds :: r) = aftS l as pm s 1 ds := after_own rfl
@[simp] theorem after_2 : after l (some 2) as pm s (.un :: .un :: .own ds :: r) = aftS l as pm s 2 ds := after_own rfl
@[simp] theorem argOf_dat : argOf l false (.dat d) = some (.val d) := rfl
@[simp] theorem argOf_v : argOf (.val d :: l) false (.pos 0) = some (.val d) := rfl
@[simp] theorem argOf_o : argOf (.own ds :: l) false (.pos 0) = some (.val (.lst ds)) := rfl
@[simp] theorem argOf_oo : argOf (.own ds :: l) true (.pos 0) = some (.own ds) := rfl
@[simp] theorem argOf_s {b : Bool} : argOf (s :: l) b (.pos (i + 1)) = argOf l b (.pos i) := rfl
@[simp] theorem argsOf_nil : argsOf l rf as j [] = some [] := rfl
@[simp] theorem argsOf_cons {Q : List Sl → Prop} : On (argsOf l rf as j (k :: pm)) Q ↔ On as[k]? fun a => On (argOf l (rf == some j) a) fun s => On (argsOf l rf as (j + 1) pm) fun r => Q (s :: r) := by
  rw [argsOf]
  cases as[k]? with
  | none => exact Iff.rfl
  | some a =>
    cases e : argsOf l rf as (j + 1) pm with
    | none =>
      dsimp only [On]
      cases argOf l (rf == some j) a <;> exact Iff.rfl
    | some r => dsimp only [On]; cases argOf l (rf == some j) a <;> exact Iff.rfl
@[simp] theorem peeks_nil : peeks l rf as j [] = [] := rfl
def peek1 (l : Loc) (own : Bool) : A → List Nat
  | .dat _ => []
  | .pos i => if own then [] else (match l[i]? with | some (.own _) => [i] | _ => [])
@[simp] theorem peek1_dat {b : Bool} : peek1 l b (.dat d) = [] := rfl
@[simp] theorem peek1_true : peek1 l true (.pos i) = [] := rfl
@[simp] theorem peek1_false : peek1 l false (.pos i) = match l[i]? with | some (.own _) => [i] | _ => [] := rfl
@[simp] theorem peeks_cons : peeks l rf as j (k :: pm) = (match as[k]? with | some a => peek1 l (rf == some j) a | none => []) ++ peeks l rf as (j + 1) pm := by
  rw [peeks]
  cases as[k]? with
  | none => rfl
  | some a => cases a <;> rfl
end
section
variable {l : Loc} {np i j : Nat} {as : List A} {pm is : List Nat} {s : Sl} {ds xs : List D} {d : D} {a b : Int}
@[simp] theorem outsOf_none : outsOf l np none = some (List.replicate np .un) := rfl
@[simp] theorem outsOf_some : outsOf l np (some j) = match l[j]? with
    | some (.own ds) => some ((List.replicate np Sl.un).set j (.own ds))
    | some (.nst cs) => some ((List.replicate np Sl.un).set j (.nst cs))
    | _ => none := rfl
@[simp] theorem refAt_none : refAt none as pm = none := rfl
@[simp] theorem refAt_some : refAt (some j) as pm = match pm[j]? with
    | some k => (match as[k]? with | some (.pos i) => some i | _ => none)
    | none => none := rfl
@[simp] theorem demotes_nil : demotes l [] = l := rfl
@[simp] theorem demotes_cons : demotes l (i :: is) = demotes (demote l i) is := rfl
@[simp] theorem demote_eq : demote l i = match l[i]? with
    | some (.own ds) => l.set i (.val (.lst ds))
    | _ => l := rfl
@[simp] theorem nolst_non : nolst .non = true := rfl
@[simp] theorem nolst_bl {b : Bool} : nolst (.bl b) = true := rfl
@[simp] theorem nolst_int : nolst (.int a) = true := rfl
@[simp] theorem nolst_str {x : Str} : nolst (.str x) = true := rfl
@[simp] theorem nolst_tup : nolst (.tup ds) = nolstL ds := by rw [nolst]
@[simp] theorem nolst_lst : nolst (.lst ds) = false := rfl
@[simp] theorem nolstL_nil : nolstL [] = true := rfl
@[simp] theorem nolstL_cons : nolstL (d :: ds) = (nolst d && nolstL ds) := by rw [nolstL]
@[simp] theorem aftS_eq : aftS l as pm s j ds = match refAt (some j) as pm with
    | some i => if (peeks l (some j) as 0 pm).contains i then none else
      some (if (peeks l (some j) as 0 pm).isEmpty || (nolst s.d && nolstL ds) then l.set i (.own ds) else demotes (l.set i (.own ds)) (peeks l (some j) as 0 pm))
    | none => none := rfl
@[simp] theorem partsD_ff : partsD false false [] = some (none, none) := rfl
@[simp] theorem partsD_tf : partsD true false [a] = some (some a, none) := rfl
@[simp] theorem partsD_ft : partsD false true [b] = some (none, some b) := rfl
@[simp] theorem partsD_tt : partsD true true [a, b] = some (some a, some b) := rfl
@[simp] theorem slD_t {p : Option Int × Option Int} : slD (.tup xs) p = some (.val (.tup (cutD xs p.1 p.2))) := rfl
@[simp] theorem slD_l {p : Option Int × Option Int} : slD (.lst xs) p = some (.own (cutD xs p.1 p.2)) := rfl
end
@[simp] theorem items_l (xs : List D) : items 0 [.lst xs] = some xs := rfl
@[simp] theorem items_t (xs : List D) : items 0 [.tup xs] = some xs := rfl
@[simp] theorem items_1 (n : Int) {Q : List D → Prop} : On (items 1 [.int n]) Q ↔ rgOk 0 n = true ∧ Q (rgD 0 n) := On_ite
@[simp] theorem items_2 (a b : Int) {Q : List D → Prop} : On (items 2 [.int a, .int b]) Q ↔ rgOk a b = true ∧ Q (rgD a b) := On_ite
theorem cutD_to (xs : List D) (k : Nat) : cutD xs none (some (k : Int)) = xs.take k := by
  unfold cutD
  rw [HT.sIx_nat, HT.sIx_none, List.drop_zero, Nat.sub_zero, ← List.take_take, List.take_length]
theorem cutD_from (xs : List D) (k : Nat) : cutD xs (some (k : Int)) none = xs.drop k := by
  unfold cutD
  rw [HT.sIx_nat, HT.sIx_none]
  have : (xs.drop (min k xs.length)).length = xs.length - min k xs.length := List.length_drop ..
  rw [List.take_of_length_le (by omega)]
  rcases Nat.le_total k xs.length with h | h
  · rw [Nat.min_eq_left h]
  · rw [Nat.min_eq_right h, List.drop_length, List.drop_of_length_le h]
theorem rgOk_ok {a b : Int} (h1 : -1000000000000 ≤ a) (h2 : b ≤ 1000000000000) (h3 : a ≤ b) (h4 : b - a ≤ 16777216) : rgOk a b = true := by
  unfold rgOk
  rw [decide_eq_true_eq]
  omega
theorem rgD_get {a b : Int} {i : Nat} {d : D} (h : (rgD a b)[i]? = some d) : d = .int (a + (i : Nat)) ∧ a + (i : Nat) < b := by
  unfold rgD at h
  rw [List.getElem?_map, Option.map_eq_some_iff] at h
  obtain ⟨j, h1, rfl⟩ := h
  obtain ⟨hi, e⟩ := List.getElem?_eq_some_iff.mp h1
  rw [List.getElem_range] at e
  rw [List.length_range] at hi
  subst e
  exact ⟨rfl, by omega⟩
theorem rgD_length (a b : Int) : (rgD a b).length = (b - a).toNat := by unfold rgD; rw [List.length_map, List.length_range]
theorem mulOk_r {i j : Int} (h1 : -18446744073709551616 < j) (h2 : j < 18446744073709551616) : mulOk i j = true := by
  unfold mulOk
  simp only [Bool.or_eq_true, decide_eq_true_eq]
  exact .inl (.inr ⟨h1, h2⟩)
theorem mulOk_l {i j : Int} (h1 : -18446744073709551616 < i) (h2 : i < 18446744073709551616) : mulOk i j = true := by
  unfold mulOk
  simp only [Bool.or_eq_true, decide_eq_true_eq]
  exact .inl (.inl ⟨h1, h2⟩)
theorem mulOk_w {i j : Int} {m n : Nat} (h1 : i.natAbs < 2 ^ m) (h2 : j.natAbs < 2 ^ n) (h : m + n ≤ 1000000) : mulOk i j = true := by
  unfold mulOk
  simp only [Bool.or_eq_true, decide_eq_true_eq]
  have lg : ∀ (x : Nat) (k : Nat), x < 2 ^ k → x.log2 < k + 1 ∧ (x.log2 = 0 ∨ x.log2 < k) := fun x k hx => by
    rcases Nat.eq_zero_or_pos x with z | z
    · subst z; rw [Nat.log2_zero]; exact ⟨by omega, .inl rfl⟩
    · have := (Nat.log2_lt (by omega)).mpr hx
      exact ⟨by omega, .inr this⟩
  have a1 := lg _ _ h1
  have a2 := lg _ _ h2
  refine .inr ?_
  omega
theorem fmod_pos (a m : Int) (h : 0 < m) : 0 ≤ a.fmod m ∧ a.fmod m < m := by
  rw [Int.fmod_eq_emod_of_nonneg _ (Int.le_of_lt h)]
  exact ⟨Int.emod_nonneg _ (by omega), Int.emod_lt_of_pos _ h⟩
theorem log_small {m : Int} (h : m.natAbs < 2 ^ 64) : m.natAbs.log2 < 9000 := by
  rcases Nat.eq_zero_or_pos m.natAbs with z | z
  · rw [z, Nat.log2_zero]; decide
  · exact Nat.lt_trans ((Nat.log2_lt (by omega)).mpr h) (by decide)
theorem log_lt {m : Int} {k : Nat} (hk : k ≤ 9000) (h : m.natAbs < 2 ^ k) : m.natAbs.log2 < 9000 := by
  rcases Nat.eq_zero_or_pos m.natAbs with z | z
  · rw [z, Nat.log2_zero]; decide
  · exact Nat.lt_of_lt_of_le ((Nat.log2_lt (by omega)).mpr h) hk
end DL

set_option Elab.async false
set_option linter.all false
set_option maxRecDepth 100000
set_option maxHeartbeats 4000000
/-! ## fractions -/
namespace FR
def nT (t b : Int) : Int := (if 0 < b then t else -t) / (Int.gcd t b : Int)
def nB (t b : Int) : Int := (if 0 < b then b else -b) / (Int.gcd t b : Int)
theorem gcd_pos {t b : Int} (hb : b ≠ 0) : 0 < (Int.gcd t b : Int) := by
  have : 0 < Int.gcd t b := Int.gcd_pos_of_ne_zero_right _ hb
  exact_mod_cast this
theorem nB_pos {t b : Int} (hb : b ≠ 0) : 0 < nB t b := by
  unfold nB
  have g := gcd_pos (t := t) hb
  have d : (Int.gcd t b : Int) ∣ (if 0 < b then b else -b) := by
    split
    · exact Int.gcd_dvd_right _ _
    · exact Int.dvd_neg.mpr (Int.gcd_dvd_right _ _)
  obtain ⟨c, hc⟩ := d
  rw [hc, Int.mul_ediv_cancel_left _ (by omega)]
  have p : 0 < (if 0 < b then b else -b) := by split <;> omega
  rw [hc] at p
  exact Int.pos_of_mul_pos_right p g |> fun h => h
theorem cross (t b : Int) : nT t b * b = t * nB t b := by
  unfold nT nB
  by_cases hb : b = 0
  · subst hb; simp
  have g := gcd_pos (t := t) hb
  obtain ⟨c, hc⟩ := Int.gcd_dvd_left t b
  obtain ⟨d, hd⟩ := Int.gcd_dvd_right t b
  generalize (Int.gcd t b : Int) = G at *
  split
  · rw [hc, hd, Int.mul_ediv_cancel_left _ (by omega), Int.mul_ediv_cancel_left _ (by omega)]
    simp only [Int.mul_assoc, Int.mul_comm, Int.mul_left_comm]
  · rw [hc, hd, ← Int.mul_neg, ← Int.mul_neg, Int.mul_ediv_cancel_left _ (by omega), Int.mul_ediv_cancel_left _ (by omega)]
    simp only [Int.mul_assoc, Int.mul_comm, Int.mul_left_comm, Int.neg_mul, Int.mul_neg]
theorem cop {t b : Int} (hb : b ≠ 0) : Int.gcd (nT t b) (nB t b) = 1 := by
  unfold nT nB
  have h := Int.gcd_ediv_gcd_ediv_gcd (i := t) (j := b) (Int.gcd_pos_of_ne_zero_right _ hb)
  split
  · exact h
  · rw [Int.neg_ediv_of_dvd (Int.gcd_dvd_left _ _), Int.neg_ediv_of_dvd (Int.gcd_dvd_right _ _), Int.neg_gcd, Int.gcd_neg]
    exact h
theorem uniq {p q p' q' : Int} (hq : 0 < q) (hq' : 0 < q') (c : Int.gcd p q = 1) (c' : Int.gcd p' q' = 1) (h : p * q' = p' * q) : p = p' ∧ q = q' := by
  have e1 : q.natAbs ∣ q'.natAbs := by
    have : q.natAbs ∣ q'.natAbs * p.natAbs := by
      rw [← Int.natAbs_mul, Int.mul_comm, h]
      exact Int.natAbs_dvd_natAbs.mpr (Int.dvd_mul_left _ _)
    refine Nat.Coprime.dvd_of_dvd_mul_right ?_ this
    unfold Nat.Coprime
    rw [Nat.gcd_comm, ← Int.gcd_eq_natAbs_gcd_natAbs]; exact c
  have e2 : q'.natAbs ∣ q.natAbs := by
    have : q'.natAbs ∣ q.natAbs * p'.natAbs := by
      rw [← Int.natAbs_mul, Int.mul_comm, ← h]
      exact Int.natAbs_dvd_natAbs.mpr (Int.dvd_mul_left _ _)
    refine Nat.Coprime.dvd_of_dvd_mul_right ?_ this
    unfold Nat.Coprime
    rw [Nat.gcd_comm, ← Int.gcd_eq_natAbs_gcd_natAbs]; exact c'
  have e : q.natAbs = q'.natAbs := Nat.dvd_antisymm e1 e2
  have e3 : q = q' := by omega
  subst e3
  exact ⟨Int.eq_of_mul_eq_mul_right (by omega) h, rfl⟩
theorem natAbs_sg (t b : Int) : (if 0 < b then t else -t).natAbs = t.natAbs := by split <;> simp
theorem nT_le (t b : Int) : (nT t b).natAbs ≤ t.natAbs := by
  unfold nT
  refine Nat.le_trans (Int.natAbs_ediv_le_natAbs _ _) ?_
  rw [natAbs_sg]; exact Nat.le_refl _
theorem nB_le (t b : Int) : (nB t b).natAbs ≤ b.natAbs := by
  unfold nB
  refine Nat.le_trans (Int.natAbs_ediv_le_natAbs _ _) ?_
  rw [natAbs_sg]; exact Nat.le_refl _
/-- what is whole in a fraction's own terms stays -/
theorem own {p q : Int} (hq : 0 < q) (c : Int.gcd p q = 1) {t b : Int} (hb : b ≠ 0) (h : p * b = t * q) : nT t b = p ∧ nB t b = q := by
  have h1 := cross t b
  refine uniq (nB_pos hb) hq (cop hb) c ?_
  -- nT * q = p * nB
  have : (nT t b * q) * b = (p * nB t b) * b := by
    calc (nT t b * q) * b = (nT t b * b) * q := by rw [Int.mul_right_comm]
      _ = (t * nB t b) * q := by rw [h1]
      _ = (t * q) * nB t b := by rw [Int.mul_right_comm]
      _ = (p * b) * nB t b := by rw [h]
      _ = (p * nB t b) * b := by rw [Int.mul_right_comm]
  exact Int.eq_of_mul_eq_mul_right hb this
theorem same {t b t' b' : Int} (hb : b ≠ 0) (hb' : b' ≠ 0) (h : t * b' = t' * b) : nT t b = nT t' b' ∧ nB t b = nB t' b' := by
  have g := own (nB_pos (t := t') hb') (cop hb') hb (p := nT t' b') (t := t) (b := b) ?_
  · exact g
  · have h1 := cross t' b'
    have : (nT t' b' * b) * b' = (t * nB t' b') * b' := by
      calc (nT t' b' * b) * b' = (nT t' b' * b') * b := by rw [Int.mul_right_comm]
        _ = (t' * nB t' b') * b := by rw [h1]
        _ = (t' * b) * nB t' b' := by rw [Int.mul_right_comm]
        _ = (t * b') * nB t' b' := by rw [h]
        _ = (t * nB t' b') * b' := by rw [Int.mul_right_comm]
    exact Int.eq_of_mul_eq_mul_right hb' this
theorem fdiv_g {t b : Int} : t.fdiv (Int.gcd t b : Int) = t / (Int.gcd t b : Int) := Int.fdiv_eq_ediv_of_dvd (Int.gcd_dvd_left _ _)
theorem euclid {h l : Nat} (hl : l ≤ h) : 2 * (l * (h % l)) ≤ h * l := by
  rcases Nat.eq_zero_or_pos l with h0 | h0
  · subst h0; simp
  · have h1 := Nat.mod_lt h h0
    have h2 : l * 1 ≤ l * (h / l) := Nat.mul_le_mul_left _ (Nat.div_pos hl h0)
    have h3 := Nat.div_add_mod h l
    have h4 : 2 * (h % l) ≤ h := by omega
    calc 2 * (l * (h % l)) = l * (2 * (h % l)) := by rw [← Nat.mul_assoc, ← Nat.mul_assoc, Nat.mul_comm 2 l]
      _ ≤ l * h := Nat.mul_le_mul_left _ h4
      _ = h * l := Nat.mul_comm _ _
/-- how far Euclid's turns still go -/
def Far (m h l : Nat) : Prop := (l ≤ h ∧ h * l < 2 ^ m) ∨ (0 < m ∧ h * l < 2 ^ (m - 1))
theorem Far.next {m h l : Nat} (f : Far m h l) (h0 : 0 < l) : 0 < m ∧ Far (m - 1) l (h % l) := by
  have pos : ∀ k, 0 < 2 ^ k := fun k => Nat.pow_pos (by decide)
  have main : l ≤ h → h * l < 2 ^ m → 0 < m ∧ Far (m - 1) l (h % l) := fun hl hp => by
    have e := euclid hl
    have m0 : 0 < m := by
      rcases Nat.eq_zero_or_pos m with z | z
      · subst z
        have : 0 < h * l := Nat.mul_pos (by omega) h0
        simp at hp; omega
      · exact z
    refine ⟨m0, .inl ⟨Nat.le_of_lt (Nat.mod_lt _ h0), ?_⟩⟩
    have : 2 ^ m = 2 * 2 ^ (m - 1) := by rw [← Nat.pow_succ', Nat.succ_eq_add_one, Nat.sub_add_cancel m0]
    omega
  rcases f with ⟨hl, hp⟩ | ⟨m0, hp⟩
  · exact main hl hp
  · rcases Nat.lt_or_ge h l with hlt | hge
    · refine ⟨m0, .inl ⟨Nat.le_of_lt (Nat.mod_lt _ h0), ?_⟩⟩
      rw [Nat.mod_eq_of_lt hlt, Nat.mul_comm]; exact hp
    · refine main hge (Nat.lt_of_lt_of_le hp (Nat.pow_le_pow_right (by decide) (by omega)))
theorem far_of {N h l : Nat} (h1 : h < 2 ^ N) (h2 : l < 2 ^ N) : Far (2 * N + 1) h l := by
  refine .inr ⟨by omega, ?_⟩
  rw [show 2 * N + 1 - 1 = N + N by omega, Nat.pow_add]
  rcases Nat.eq_zero_or_pos l with z | z
  · subst z; simp; exact Nat.mul_pos (Nat.pow_pos (by decide)) (Nat.pow_pos (by decide))
  · exact Nat.mul_lt_mul_of_lt_of_le h1 (Nat.le_of_lt h2) (Nat.pow_pos (by decide))
end FR

set_option Elab.async false
set_option linter.all false
set_option maxRecDepth 100000
set_option maxHeartbeats 4000000
set_option exponentiation.threshold 20000
namespace DL
open PySem PySem.Spec PyProof.Rows L2

/-! ## common_divisor, fraction .. of the program -/
def fdGcd : FD := ⟨2, 4, none, [.set 2 (.prim .abs [.var 0]), .set 3 (.prim .abs [.var 1]), .whl (.var 3) [.par [2, 3] [.var 3, .prim .mod [.var 2, .var 3]]], .retv 2]⟩
def fdFraction (g : Nat) : FD := ⟨2, 3, none, [.set 2 (.call g none [0, 1] [.var 0, .var 1]), .ite (.prim .lt [.var 1, .cst (.int 0)]) [.set 2 (.prim .neg [.var 2])] [], .ret (.pack true [.prim .fdiv [.var 0, .var 2], .prim .fdiv [.var 1, .var 2]])]⟩
section
variable {P : Nat → Option FD} {n : Nat} {Q : Sl × List Sl → Prop}
theorem natAbs_if (i : Int) : (if i < 0 then -i else i) = (i.natAbs : Int) := by split <;> omega
theorem gcd_run {i : Nat} (h : P i = some fdGcd) {a b : Int} {N : Nat} (hN : N ≤ 8000000) (ha : a.natAbs < 2 ^ N) (hb : b.natAbs < 2 ^ N) (q : Q (.val (.int (Int.gcd a b : Int)), [.un, .un])) :
    Post (callF P (n + 1) i [.val (.int a), .val (.int b)]) Q := by
  rw [post_fn h]
  simp [fdGcd, natAbs_if]
  refine whileL_inv (fun m l => ∃ h lo : Nat, l = [.val (.int a), .val (.int b), .val (.int h), .val (.int lo)] ∧ Nat.gcd h lo = Int.gcd a b ∧ FR.Far m h lo) (m := 2 * N + 1) (by unfold whileFuel; omega) ⟨a.natAbs, b.natAbs, rfl, (Int.gcd_eq_natAbs_gcd_natAbs a b).symm, FR.far_of ha hb⟩ ?_
  rintro m l ⟨h, lo, rfl, hg, hf⟩
  simp
  (first | refine If.hh (fun h0 => ?_) (fun h0 => ?_) | refine If.ha (fun h0 => ?_) (fun h0 => ?_) | refine If.ah (fun h0 => ?_) (fun h0 => ?_) | refine If.aa (fun h0 => ?_) (fun h0 => ?_))
  rotate_left
  · have h0 : lo = 0 := by simpa using h0
    subst h0
    rw [Nat.gcd_zero_right] at hg
    rw [hg]; exact q
  · have h0 : lo ≠ 0 := by simpa using h0
    obtain ⟨m0, hf'⟩ := hf.next (Nat.pos_of_ne_zero h0)
    simp
    refine ⟨h0, m - 1, by omega, lo, h % lo, ⟨rfl, ?_⟩, ?_, hf'⟩
    · rw [Int.fmod_eq_emod_of_nonneg _ (Int.natCast_nonneg lo)]; rfl
    · rw [Nat.gcd_comm lo, ← Nat.gcd_rec, Nat.gcd_comm, hg]
theorem fraction_run {i g : Nat} (h : P i = some (fdFraction g)) (hg : P g = some fdGcd) {t b : Int} {N : Nat} (hN : N ≤ 8999) (ht : t.natAbs < 2 ^ N) (hb : b.natAbs < 2 ^ N) (b0 : b ≠ 0) (q : Q (.val (.tup [.int (FR.nT t b), .int (FR.nB t b)]), [.un, .un])) :
    Post (callF P (n + 2) i [.val (.int t), .val (.int b)]) Q := by
  rw [post_fn h]
  simp [fdFraction]
  refine gcd_run hg (by omega) ht hb ?_
  simp
  have gp := FR.gcd_pos (t := t) b0
  have gl : Nat.log2 (Int.gcd t b) < 9000 := by
    have le : Int.gcd t b ≤ b.natAbs := by
      rw [Int.gcd_eq_natAbs_gcd_natAbs]
      exact Nat.gcd_le_right _ (Nat.pos_of_ne_zero (by omega))
    have : Int.gcd t b < 2 ^ 9000 := Nat.lt_of_le_of_lt le (Nat.lt_of_lt_of_le hb (Nat.pow_le_pow_right (by decide) (by omega)))
    exact (Nat.log2_lt (by omega)).mpr this
  have g0 : (Int.gcd t b : Int) ≠ 0 := by omega
  (first | refine If.hh (fun hlt => ?_) (fun hlt => ?_) | refine If.ha (fun hlt => ?_) (fun hlt => ?_) | refine If.ah (fun hlt => ?_) (fun hlt => ?_) | refine If.aa (fun hlt => ?_) (fun hlt => ?_))
  · have hlt : b < 0 := by simpa using hlt
    simp [g0, gl]
    have e1 : ∀ x : Int, x.fdiv (-(Int.gcd t b : Int)) = (-x).fdiv (Int.gcd t b : Int) := fun x => by
      conv => lhs; rw [← Int.neg_neg x]
      rw [Int.neg_fdiv_neg]
    rw [e1, e1, Int.fdiv_eq_ediv_of_dvd (Int.dvd_neg.mpr (Int.gcd_dvd_left _ _)), Int.fdiv_eq_ediv_of_dvd (Int.dvd_neg.mpr (Int.gcd_dvd_right _ _))]
    have e2 : ¬ 0 < b := by omega
    unfold FR.nT FR.nB at q
    rw [if_neg e2, if_neg e2] at q
    exact ⟨fun _ => b0, q⟩
  · have hlt : ¬ b < 0 := by simpa using hlt
    simp [g0, gl]
    rw [Int.fdiv_eq_ediv_of_dvd (Int.gcd_dvd_left _ _), Int.fdiv_eq_ediv_of_dvd (Int.gcd_dvd_right _ _)]
    have e2 : 0 < b := by omega
    unfold FR.nT FR.nB at q
    rw [if_pos e2, if_pos e2] at q
    exact ⟨fun _ => b0, q⟩
end
end DL

set_option Elab.async false
set_option linter.all false
set_option maxRecDepth 100000
set_option maxHeartbeats 4000000
set_option exponentiation.threshold 20000
namespace DL
open PySem PySem.Spec PyProof.Rows L2

/-! ## fractions as rational numbers -/
/-- a fraction as data -/
def fr (x : Rat) : D := .tup [.int x.num, .int (x.den : Int)]
/-- of so many bits -/
structure Bd (N : Nat) (x : Rat) : Prop where
  num : x.num.natAbs < 2 ^ N
  den : x.den < 2 ^ N
theorem Bd.mono {M N : Nat} {x : Rat} (h : Bd M x) (hm : M ≤ N) : Bd N x :=
  ⟨Nat.lt_of_lt_of_le h.num (Nat.pow_le_pow_right (by decide) hm), Nat.lt_of_lt_of_le h.den (Nat.pow_le_pow_right (by decide) hm)⟩
theorem nTB_eq {t b : Int} (hb : b ≠ 0) : FR.nT t b = (Rat.divInt t b).num ∧ FR.nB t b = ((Rat.divInt t b).den : Int) := by
  have hd : ((Rat.divInt t b).den : Int) ≠ 0 := by have := (Rat.divInt t b).den_nz; omega
  have e : Rat.divInt (Rat.divInt t b).num ((Rat.divInt t b).den : Int) = Rat.divInt t b := Rat.num_divInt_den _
  have e2 := (Rat.divInt_eq_divInt_iff hd hb).mp e
  refine FR.own (by have := (Rat.divInt t b).den_pos; omega) ?_ hb e2
  have := (Rat.divInt t b).reduced
  rw [Int.gcd_eq_natAbs_gcd_natAbs]
  exact this
theorem bd_divInt {N : Nat} {t b : Int} (ht : t.natAbs < 2 ^ N) (hb : b.natAbs < 2 ^ N) (b0 : b ≠ 0) : Bd N (Rat.divInt t b) := by
  obtain ⟨e1, e2⟩ := nTB_eq (t := t) b0
  refine ⟨?_, ?_⟩
  · rw [← e1]; exact Nat.lt_of_le_of_lt (FR.nT_le t b) ht
  · have h := FR.nB_le t b
    rw [e2] at h
    exact Nat.lt_of_le_of_lt (by simpa using h) hb
theorem add_divInt (x y : Rat) : x + y = Rat.divInt (x.num * (y.den : Int) + y.num * (x.den : Int)) ((x.den : Int) * (y.den : Int)) := by
  rw [Rat.add_def', ← Rat.divInt_ofNat]; simp
theorem sub_divInt (x y : Rat) : x - y = Rat.divInt (x.num * (y.den : Int) - y.num * (x.den : Int)) ((x.den : Int) * (y.den : Int)) := by
  rw [Rat.sub_def', ← Rat.divInt_ofNat]; simp
theorem mul_divInt (x y : Rat) : x * y = Rat.divInt (x.num * y.num) ((x.den : Int) * (y.den : Int)) := by
  rw [Rat.mul_def', ← Rat.divInt_ofNat]; simp
theorem div_divInt (x y : Rat) : x / y = Rat.divInt (x.num * (y.den : Int)) ((x.den : Int) * y.num) := by
  rw [Rat.div_def, Rat.inv_def]
  conv => lhs; rw [← Rat.num_divInt_den x]
  rw [Rat.divInt_mul_divInt]
theorem bd_int {N : Nat} {i : Int} (h : i.natAbs < 2 ^ N) (hN : N ≠ 0) : Bd N (i : Rat) := ⟨h, by rw [Rat.den_intCast]; exact Nat.one_lt_two_pow hN⟩
theorem mul_bd {a b : Int} {M N : Nat} (ha : a.natAbs < 2 ^ M) (hb : b.natAbs < 2 ^ N) : (a * b).natAbs < 2 ^ (M + N) := by
  rw [Int.natAbs_mul, Nat.pow_add]
  rcases Nat.eq_zero_or_pos b.natAbs with z | z
  · rw [z, Nat.mul_zero]; exact Nat.mul_pos (Nat.pow_pos (by decide)) (Nat.pow_pos (by decide))
  · exact Nat.mul_lt_mul_of_lt_of_le ha (Nat.le_of_lt hb) (Nat.pow_pos (by decide))
theorem add_bd {a b : Int} {N : Nat} (ha : a.natAbs < 2 ^ N) (hb : b.natAbs < 2 ^ N) : (a + b).natAbs < 2 ^ (N + 1) := by
  rw [Nat.pow_succ]; omega
theorem sub_bd {a b : Int} {N : Nat} (ha : a.natAbs < 2 ^ N) (hb : b.natAbs < 2 ^ N) : (a - b).natAbs < 2 ^ (N + 1) := by
  rw [Nat.pow_succ]; omega
theorem up_bd {x k : Nat} (h : x < 2 ^ k) : x < 2 ^ (k + 1) := Nat.lt_of_lt_of_le h (Nat.pow_le_pow_right (by decide) (by omega))
section
variable {M N : Nat} {x y : Rat}
theorem Bd.dn (h : Bd N x) : ((x.den : Int)).natAbs < 2 ^ N := by simpa using h.den
theorem den0 (x : Rat) : (x.den : Int) ≠ 0 := by have := x.den_nz; omega
theorem den_pos' (x : Rat) : 0 < (x.den : Int) := by have := x.den_pos; omega
theorem bd_add (f : Bd M x) (g : Bd N y) : Bd (M + N + 1) (x + y) := by
  rw [add_divInt]
  refine bd_divInt (add_bd (mul_bd f.num g.dn) (by rw [Nat.add_comm M]; exact mul_bd g.num f.dn)) (up_bd (mul_bd f.dn g.dn)) (Int.mul_ne_zero (den0 x) (den0 y))
theorem bd_sub (f : Bd M x) (g : Bd N y) : Bd (M + N + 1) (x - y) := by
  rw [sub_divInt]
  refine bd_divInt (sub_bd (mul_bd f.num g.dn) (by rw [Nat.add_comm M]; exact mul_bd g.num f.dn)) (up_bd (mul_bd f.dn g.dn)) (Int.mul_ne_zero (den0 x) (den0 y))
theorem bd_mul (f : Bd M x) (g : Bd N y) : Bd (M + N) (x * y) := by
  rw [mul_divInt]
  exact bd_divInt (mul_bd f.num g.num) (mul_bd f.dn g.dn) (Int.mul_ne_zero (den0 x) (den0 y))
theorem bd_div (f : Bd M x) (g : Bd N y) (y0 : y ≠ 0) : Bd (M + N) (x / y) := by
  rw [div_divInt]
  exact bd_divInt (mul_bd f.num g.dn) (mul_bd f.dn g.num) (Int.mul_ne_zero (den0 x) (fun z => y0 (Rat.num_eq_zero.mp z)))
end

/-! ## the functions of fractions, by what they call -/
section
variable {P : Nat → Option FD} {Q : Sl × List Sl → Prop} {n : Nat}
/-- f makes fractions, from level a on -/
structure Fra (P : Nat → Option FD) (f a : Nat) : Prop where
  run : ∀ {n : Nat} {t b : Int} {N : Nat} {Q : Sl × List Sl → Prop}, N ≤ 8999 → t.natAbs < 2 ^ N → b.natAbs < 2 ^ N → b ≠ 0 → Q (.val (fr (Rat.divInt t b)), [.un, .un]) → Post (callF P (n + a) f [.val (.int t), .val (.int b)]) Q
theorem fra_fraction {f g : Nat} (h : P f = some (fdFraction g)) (hg : P g = some fdGcd) : Fra P f 2 := ⟨fun {n t b N Q} hN ht hb b0 q => by
  refine fraction_run h hg hN ht hb b0 ?_
  obtain ⟨e1, e2⟩ := nTB_eq (t := t) b0
  rw [e1, e2]
  exact q⟩
def fdDivisor : FD := ⟨2, 3, none, [.fer (.name 2) 1 [.cst (.int 10000)] [.ite (.prim .eq [.var 1, .cst (.int 0)]) [.brk] [], .par [0, 1] [.var 1, .prim .mod [.prim .int [.var 0], .var 1]]], .retv 0]⟩
def fdDivisorL : FD := ⟨2, 3, none, [.fer (.name 2) 1 [.cst (.int 100000)] [.ite (.prim .eq [.var 1, .cst (.int 0)]) [.brk] [], .par [0, 1] [.var 1, .prim .mod [.prim .int [.var 0], .var 1]]], .retv 0]⟩
def fdLFraction (g : Nat) : FD := ⟨2, 3, none, [.asg (.tup [.name 0, .name 1]) (.ite (.prim .gt [.var 1, .cst (.int 0)]) (.pack true [.var 0, .var 1]) (.pack true [.prim .neg [.var 0], .prim .neg [.var 1]])), .set 2 (.call g none [0, 1] [.prim .abs [.var 0], .var 1]), .ret (.pack true [.prim .fdiv [.var 0, .var 2], .prim .fdiv [.var 1, .var 2]])]⟩
theorem divisor_body {C : Int} (hC : 10000 ≤ C) (hC2 : C ≤ 100000) {a b : Int} {N : Nat} (hN : N ≤ 4000) (ha0 : 0 ≤ a) (hb0 : 0 ≤ b) (ha : a.natAbs < 2 ^ N) (hb : b.natAbs < 2 ^ N) (q : Q (.val (.int (Int.gcd a b : Int)), [.un, .un])) :
    Post (exB (callF P n) [.fer (.name 2) 1 [.cst (.int C)] [.ite (.prim .eq [.var 1, .cst (.int 0)]) [.brk] [], .par [0, 1] [.var 1, .prim .mod [.prim .int [.var 0], .var 1]]], .retv 0] [.val (.int a), .val (.int b), .un]) (endQ 2 none Q) := by
  simp
  obtain ⟨h, rfl⟩ := Int.eq_ofNat_of_zero_le ha0
  obtain ⟨lo, rfl⟩ := Int.eq_ofNat_of_zero_le hb0
  refine ⟨rgOk_ok (by omega) (by omega) (by omega) (by omega), ?_⟩
  have e := rgD_length 0 C
  generalize rgD 0 C = xs at e ⊢
  refine forL_inv (fun ds l => ∃ (m h' lo' : Nat) (c : Sl), l = [.val (.int h'), .val (.int lo'), c] ∧ Nat.gcd h' lo' = Nat.gcd h lo ∧ FR.Far m h' lo' ∧ m ≤ ds.length) ?_ (fun d ds l hh => ?_) (fun l hh => ?_)
  · refine ⟨2 * N + 1, h, lo, _, rfl, rfl, FR.far_of (by simpa using ha) (by simpa using hb), ?_⟩
    rw [e]; omega
  · obtain ⟨m, h', lo', c, rfl, hg, hf, hm⟩ := hh
    simp
    (first | refine If.hh (fun h0 => ?_) (fun h0 => ?_) | refine If.ha (fun h0 => ?_) (fun h0 => ?_) | refine If.ah (fun h0 => ?_) (fun h0 => ?_) | refine If.aa (fun h0 => ?_) (fun h0 => ?_))
    · have h0 : lo' = 0 := by simpa using h0
      subst h0
      rw [Nat.gcd_zero_right] at hg
      simp
      rw [hg]
      exact q
    · have h0 : lo' ≠ 0 := by simpa using h0
      obtain ⟨m0, hf'⟩ := hf.next (Nat.pos_of_ne_zero h0)
      simp
      rw [List.length_cons] at hm
      refine ⟨h0, m - 1, lo', h' % lo', ⟨rfl, ?_⟩, ?_, hf', by omega⟩
      · rw [Int.fmod_eq_emod_of_nonneg _ (Int.natCast_nonneg lo')]; rfl
      · rw [Nat.gcd_comm lo', ← Nat.gcd_rec, Nat.gcd_comm, hg]
  · obtain ⟨m, h', lo', c, rfl, hg, hf, hm⟩ := hh
    have m0 : m = 0 := by simpa using hm
    subst m0
    have h0 : lo' = 0 := by
      rcases hf with ⟨h1, h2⟩ | ⟨h1, _⟩
      · have := Nat.lt_one_iff.mp h2
        rcases Nat.mul_eq_zero.mp this with z | z <;> omega
      · exact absurd h1 (Nat.lt_irrefl 0)
    subst h0
    rw [Nat.gcd_zero_right] at hg
    simp
    rw [hg]
    exact q
theorem divisor_run {i : Nat} (hP : P i = some fdDivisor) {a b : Int} {N : Nat} (hN : N ≤ 4000) (ha0 : 0 ≤ a) (hb0 : 0 ≤ b) (ha : a.natAbs < 2 ^ N) (hb : b.natAbs < 2 ^ N) (q : Q (.val (.int (Int.gcd a b : Int)), [.un, .un])) :
    Post (callF P (n + 1) i [.val (.int a), .val (.int b)]) Q := by
  rw [post_fn hP]
  exact ⟨rfl, divisor_body (by decide) (by decide) hN ha0 hb0 ha hb q⟩
theorem divisorL_run {i : Nat} (hP : P i = some fdDivisorL) {a b : Int} {N : Nat} (hN : N ≤ 4000) (ha0 : 0 ≤ a) (hb0 : 0 ≤ b) (ha : a.natAbs < 2 ^ N) (hb : b.natAbs < 2 ^ N) (q : Q (.val (.int (Int.gcd a b : Int)), [.un, .un])) :
    Post (callF P (n + 1) i [.val (.int a), .val (.int b)]) Q := by
  rw [post_fn hP]
  exact ⟨rfl, divisor_body (by decide) (by decide) hN ha0 hb0 ha hb q⟩
theorem lfrac_of {i g : Nat} (h : P i = some (fdLFraction g)) (hd : ∀ {n : Nat} {a b : Int} {N : Nat} {Q : Sl × List Sl → Prop}, N ≤ 4000 → 0 ≤ a → 0 ≤ b → a.natAbs < 2 ^ N → b.natAbs < 2 ^ N → Q (.val (.int (Int.gcd a b : Int)), [.un, .un]) → Post (callF P (n + 1) g [.val (.int a), .val (.int b)]) Q)
    {t b : Int} {N : Nat} (hN : N ≤ 4000) (ht : t.natAbs < 2 ^ N) (hb : b.natAbs < 2 ^ N) (b0 : b ≠ 0) (q : Q (.val (fr (Rat.divInt t b)), [.un, .un])) :
    Post (callF P (n + 2) i [.val (.int t), .val (.int b)]) Q := by
  rw [post_fn h]
  have gp := FR.gcd_pos (t := t) b0
  have gl : Nat.log2 (Int.gcd t b) < 9000 := by
    have le : Int.gcd t b ≤ b.natAbs := by
      rw [Int.gcd_eq_natAbs_gcd_natAbs]
      exact Nat.gcd_le_right _ (Nat.pos_of_ne_zero (by omega))
    exact (Nat.log2_lt (by omega)).mpr (Nat.lt_of_le_of_lt le (Nat.lt_of_lt_of_le hb (Nat.pow_le_pow_right (by decide) (by omega))))
  have g0 : (Int.gcd t b : Int) ≠ 0 := by omega
  unfold fr at q
  rw [← (nTB_eq (t := t) b0).1, ← (nTB_eq (t := t) b0).2] at q
  unfold FR.nT FR.nB at q
  simp [fdLFraction]
  (first | refine If.hh (fun h => ?_) (fun h => ?_) | refine If.ha (fun h => ?_) (fun h => ?_) | refine If.ah (fun h => ?_) (fun h => ?_) | refine If.aa (fun h => ?_) (fun h => ?_))
  · have h : 0 < b := by simpa using h
    simp
    have e : (if t < 0 then -t else t).gcd b = Int.gcd t b := by split <;> simp
    refine hd (N := N) (by omega) (by split <;> omega) (by omega) (by split <;> simpa using ht) hb ?_
    rw [e]
    simp [g0, gl]
    rw [if_pos h, if_pos h] at q
    rw [Int.fdiv_eq_ediv_of_dvd (Int.gcd_dvd_left _ _), Int.fdiv_eq_ediv_of_dvd (Int.gcd_dvd_right _ _)]
    exact ⟨fun _ => b0, q⟩
  · have h : ¬ 0 < b := by simpa using h
    simp
    have e : (if 0 < t then t else -t).gcd (-b) = Int.gcd t b := by split <;> simp
    refine hd (N := N) (by omega) (by split <;> omega) (by omega) (by split <;> simpa using ht) (by simpa using hb) ?_
    rw [e]
    simp [g0, gl]
    rw [if_neg h, if_neg h] at q
    rw [Int.fdiv_eq_ediv_of_dvd (Int.dvd_neg.mpr (Int.gcd_dvd_left _ _)), Int.fdiv_eq_ediv_of_dvd (Int.dvd_neg.mpr (Int.gcd_dvd_right _ _))]
    exact ⟨fun _ => b0, q⟩
/-- f makes fractions of at most 4000 bits -/
structure Frb (P : Nat → Option FD) (f : Nat) : Prop where
  run : ∀ {n : Nat} {t b : Int} {N : Nat} {Q : Sl × List Sl → Prop}, N ≤ 4000 → t.natAbs < 2 ^ N → b.natAbs < 2 ^ N → b ≠ 0 → Q (.val (fr (Rat.divInt t b)), [.un, .un]) → Post (callF P (n + 2) f [.val (.int t), .val (.int b)]) Q
theorem frb_fraction {f g : Nat} (h : P f = some (fdFraction g)) (hg : P g = some fdGcd) : Frb P f := ⟨fun hN => (fra_fraction h hg).run (by omega)⟩
theorem frb_law {f g : Nat} (h : P f = some (fdLFraction g)) (hg : P g = some fdDivisor) : Frb P f := ⟨lfrac_of h (divisor_run hg)⟩
theorem frb_lawL {f g : Nat} (h : P f = some (fdLFraction g)) (hg : P g = some fdDivisorL) : Frb P f := ⟨lfrac_of h (divisorL_run hg)⟩
def fdAdd (f : Nat) : FD := ⟨2, 2, none, [.ret (.call f none [0, 1] [.prim .add [.prim .mul [.prim .ix [.var 0, .cst (.int 0)], .prim .ix [.var 1, .cst (.int 1)]], .prim .mul [.prim .ix [.var 1, .cst (.int 0)], .prim .ix [.var 0, .cst (.int 1)]]], .prim .mul [.prim .ix [.var 0, .cst (.int 1)], .prim .ix [.var 1, .cst (.int 1)]]])]⟩
def fdSub (f : Nat) : FD := ⟨2, 2, none, [.ret (.call f none [0, 1] [.prim .sub [.prim .mul [.prim .ix [.var 0, .cst (.int 0)], .prim .ix [.var 1, .cst (.int 1)]], .prim .mul [.prim .ix [.var 1, .cst (.int 0)], .prim .ix [.var 0, .cst (.int 1)]]], .prim .mul [.prim .ix [.var 0, .cst (.int 1)], .prim .ix [.var 1, .cst (.int 1)]]])]⟩
def fdMul (f : Nat) : FD := ⟨2, 2, none, [.ret (.call f none [0, 1] [.prim .mul [.prim .ix [.var 0, .cst (.int 0)], .prim .ix [.var 1, .cst (.int 0)]], .prim .mul [.prim .ix [.var 0, .cst (.int 1)], .prim .ix [.var 1, .cst (.int 1)]]])]⟩
def fdDiv (f : Nat) : FD := ⟨2, 2, none, [.ret (.call f none [0, 1] [.prim .mul [.prim .ix [.var 0, .cst (.int 0)], .prim .ix [.var 1, .cst (.int 1)]], .prim .mul [.prim .ix [.var 0, .cst (.int 1)], .prim .ix [.var 1, .cst (.int 0)]]])]⟩
def fdLess : FD := ⟨2, 2, none, [.ret (.prim .lt [.prim .mul [.prim .ix [.var 0, .cst (.int 0)], .prim .ix [.var 1, .cst (.int 1)]], .prim .mul [.prim .ix [.var 1, .cst (.int 0)], .prim .ix [.var 0, .cst (.int 1)]]])]⟩
variable {M N i f : Nat} {x y : Rat}
theorem add_run (h : P i = some (fdAdd f)) (F : Frb P f) (bx : Bd M x) (by_ : Bd N y) (hm : M + N + 1 ≤ 4000) (q : Q (.val (fr (x + y)), [.un, .un])) : Post (callF P (n + 3) i [.val (fr x), .val (fr y)]) Q := by
  rw [post_fn h]
  unfold fr
  simp [fdAdd]
  refine ⟨mulOk_w bx.num by_.dn (by omega), mulOk_w by_.num bx.dn (by omega), mulOk_w bx.dn by_.dn (by omega), ?_⟩
  refine F.run (N := M + N + 1) (by omega) (add_bd (mul_bd bx.num by_.dn) (by rw [Nat.add_comm M]; exact mul_bd by_.num bx.dn)) (up_bd (mul_bd bx.dn by_.dn)) (Int.mul_ne_zero (den0 x) (den0 y)) ?_
  rw [← add_divInt]
  simp
  exact q
theorem sub_run (h : P i = some (fdSub f)) (F : Frb P f) (bx : Bd M x) (by_ : Bd N y) (hm : M + N + 1 ≤ 4000) (q : Q (.val (fr (x - y)), [.un, .un])) : Post (callF P (n + 3) i [.val (fr x), .val (fr y)]) Q := by
  rw [post_fn h]
  unfold fr
  simp [fdSub]
  refine ⟨mulOk_w bx.num by_.dn (by omega), mulOk_w by_.num bx.dn (by omega), mulOk_w bx.dn by_.dn (by omega), ?_⟩
  refine F.run (N := M + N + 1) (by omega) (sub_bd (mul_bd bx.num by_.dn) (by rw [Nat.add_comm M]; exact mul_bd by_.num bx.dn)) (up_bd (mul_bd bx.dn by_.dn)) (Int.mul_ne_zero (den0 x) (den0 y)) ?_
  rw [← sub_divInt]
  simp
  exact q
theorem mul_run (h : P i = some (fdMul f)) (F : Frb P f) (bx : Bd M x) (by_ : Bd N y) (hm : M + N + 1 ≤ 4000) (q : Q (.val (fr (x * y)), [.un, .un])) : Post (callF P (n + 3) i [.val (fr x), .val (fr y)]) Q := by
  rw [post_fn h]
  unfold fr
  simp [fdMul]
  refine ⟨mulOk_w bx.num by_.num (by omega), mulOk_w bx.dn by_.dn (by omega), ?_⟩
  refine F.run (N := M + N) (by omega) (mul_bd bx.num by_.num) (mul_bd bx.dn by_.dn) (Int.mul_ne_zero (den0 x) (den0 y)) ?_
  rw [← mul_divInt]
  simp
  exact q
theorem div_run (h : P i = some (fdDiv f)) (F : Frb P f) (bx : Bd M x) (by_ : Bd N y) (y0 : y ≠ 0) (hm : M + N + 1 ≤ 4000) (q : Q (.val (fr (x / y)), [.un, .un])) : Post (callF P (n + 3) i [.val (fr x), .val (fr y)]) Q := by
  rw [post_fn h]
  unfold fr
  simp [fdDiv]
  refine ⟨mulOk_w bx.num by_.dn (by omega), mulOk_w bx.dn by_.num (by omega), ?_⟩
  refine F.run (N := M + N) (by omega) (mul_bd bx.num by_.dn) (mul_bd bx.dn by_.num) (Int.mul_ne_zero (den0 x) (fun z => y0 (Rat.num_eq_zero.mp z))) ?_
  rw [← div_divInt]
  simp
  exact q
theorem less_run (h : P i = some fdLess) (bx : Bd M x) (by_ : Bd N y) (hm : M + N + 1 ≤ 4000) (q : Q (.val (.bl (decide (x < y))), [.un, .un])) : Post (callF P (n + 1) i [.val (fr x), .val (fr y)]) Q := by
  rw [post_fn h]
  unfold fr
  simp [fdLess]
  refine ⟨mulOk_w bx.num by_.dn (by omega), mulOk_w by_.num bx.dn (by omega), ?_⟩
  have e : decide (x.num * (y.den : Int) < y.num * (x.den : Int)) = decide (x < y) := decide_eq_decide.mpr (Rat.lt_iff x y).symm
  rw [e]
  exact q
end
end DL

set_option Elab.async false
set_option linter.all false
set_option maxRecDepth 100000
set_option maxHeartbeats 4000000
set_option exponentiation.threshold 20000
namespace DL
open PySem PySem.Spec PyProof.Rows L2

/-! ## draws of the first kind: mixed, start, take, pick -/
def fdMixed : FD := ⟨2, 4, none, [.set 2 (.prim .mod [.prim .int [.prim .add [.prim .add [.prim .mul [.var 0, .cst (.int 48271)], .prim .mul [.var 1, .cst (.int 69621)]], .cst (.int 97)]], .cst (.int 2147483647)]), .set 3 (.prim .mod [.prim .int [.prim .add [.prim .add [.prim .mul [.var 2, .prim .add [.prim .add [.var 2, .prim .mul [.cst (.int 2), .var 1]], .cst (.int 1)]], .prim .mul [.var 1, .cst (.int 16807)]], .cst (.int 31)]], .cst (.int 2147483629)]), .ret (.prim .mod [.prim .int [.prim .add [.prim .mul [.var 3, .cst (.int 40692)], .var 2]], .cst (.int 2147483587)])]⟩
def fdStart (m : Nat) : FD := ⟨1, 3, none, [.set 1 (.prim .len [.var 0]), .fer (.name 2) 0 [.slc (.var 0) false true [.cst (.int 63)]] [.set 1 (.call m none [0, 1] [.prim .add [.var 1, .var 2], .cst (.int 5)])], .ret (.pack false [.cst (.int 0), .cst (.int 0), .cst (.int 0), .var 1, .prim .lst [.slc (.var 0) false true [.cst (.int 63)]], .cst (.int 0)])]⟩
def fdTake (m : Nat) : FD := ⟨2, 5, some 0, [.set 2 (.prim .ix [.var 0, .cst (.int 4)]), .augix 0 (.cst (.int 2)) .add (.cst (.int 1)), .ite (.and (.prim .eq [.prim .ix [.var 0, .cst (.int 0)], .cst (.int 0)]) (.prim .lt [.prim .ix [.var 0, .cst (.int 1)], .prim .len [.var 2]])) [.set 4 (.prim .ix [.var 2, .prim .ix [.var 0, .cst (.int 1)]]), .augix 0 (.cst (.int 1)) .add (.cst (.int 1)), .ite (.prim .lt [.prim .abs [.var 4], .prim .pow [.cst (.int 10), .cst (.int 18)]]) [.ret (.prim .mod [.prim .int [.call m none [0, 1] [.var 4, .prim .ix [.var 0, .cst (.int 2)]]], .var 1])] [], .setix 0 (.cst (.int 0)) (.prim .abs [.var 4]), .setix 0 (.cst (.int 5)) (.cst (.int 60))] [], .ite (.prim .eq [.prim .ix [.var 0, .cst (.int 0)], .cst (.int 0)]) [.ret (.prim .mod [.prim .int [.call m none [0, 1] [.prim .ix [.var 0, .cst (.int 3)], .prim .ix [.var 0, .cst (.int 2)]]], .var 1])] [], .set 3 (.prim .mod [.prim .int [.prim .ix [.var 0, .cst (.int 0)]], .var 1]), .augix 0 (.cst (.int 5)) .sub (.cst (.int 1)), .setix 0 (.cst (.int 0)) (.prim .mul [.prim .fdiv [.prim .ix [.var 0, .cst (.int 0)], .var 1], .prim .int [.prim .gt [.prim .ix [.var 0, .cst (.int 5)], .cst (.int 0)]]]), .retv 3]⟩
def fdPick (t : Nat) : FD := ⟨2, 2, some 0, [.ret (.prim .ix [.var 1, .call t (some 0) [0, 1] [.var 0, .prim .len [.var 1]]])]⟩
def fdSame (s : Nat) : FD := ⟨2, 3, none, [.ite (.prim .iz [.var 1, .cst .non]) [.ret (.prim .iz [.var 0, .cst .non])] [], .ite (.prim (.ist 1) [.var 1]) [.ret (.and (.prim (.ist 1) [.var 0]) (.prim .eq [.var 0, .var 1]))] [], .ite (.prim (.ist 0) [.var 1]) [.ret (.and (.prim (.ist 0) [.var 0]) (.and (.not (.prim (.ist 1) [.var 0])) (.prim .eq [.var 0, .var 1])))] [], .ite (.prim (.ist 2) [.var 1]) [.ret (.and (.prim (.ist 2) [.var 0]) (.prim .eq [.var 0, .var 1]))] [], .ite (.or (.not (.prim (.ist 3) [.var 0])) (.prim .ne [.prim .len [.var 0], .prim .len [.var 1]])) [.ret (.cst (.bl false))] [], .fer (.name 2) 1 [.prim .len [.var 1]] [.ite (.not (.call s none [0, 1] [.prim .ix [.var 0, .var 2], .prim .ix [.var 1, .var 2]])) [.ret (.cst (.bl false))] []], .ret (.cst (.bl true))]⟩
section
variable {P : Nat → Option FD} {n : Nat} {Q : Sl × List Sl → Prop}
theorem mixed_run {i : Nat} (hP : P i = some fdMixed) {a k : Int} (q : ∀ v : Int, Q (.val (.int v), [.un, .un])) : Post (callF P (n + 1) i [.val (.int a), .val (.int k)]) Q := by
  rw [post_fn hP]
  simp [fdMixed]
  have b1 := fmod_pos (a * 48271 + k * 69621 + 97) 2147483647 (by decide)
  exact ⟨mulOk_r (by decide) (by decide), mulOk_r (by decide) (by decide), mulOk_l (by decide) (by decide), mulOk_l (by omega) (by omega), mulOk_r (by decide) (by decide), mulOk_r (by decide) (by decide), q _⟩
/-- a state -/
def St (ds : List D) : Prop := ∃ (a b c d e : Int) (ns : List Int), 0 ≤ b ∧ ds = [.int a, .int b, .int c, .int d, .lst (ns.map D.int), .int e]
theorem start_run {i m : Nat} (hP : P i = some (fdStart m)) (hm : P m = some fdMixed) {ns : List Int} (hn : ns.length ≤ 63) (q : ∀ st, St st → Q (.own st, [.un])) : Post (callF P (n + 2) i [.val (.lst (ns.map D.int))]) Q := by
  rw [post_fn hP]
  simp [fdStart]
  rw [show (63 : Int) = ((63 : Nat) : Int) from rfl, cutD_to, List.take_of_length_le (by simpa using hn)]
  refine forL_inv (fun ds l => ∃ (ms : List Int) (s : Int) (c : Sl), ds = ms.map D.int ∧ l = [.val (.lst (ns.map D.int)), .val (.int s), c]) ⟨ns, _, _, rfl, rfl⟩ (fun d ds l h => ?_) (fun l h => ?_)
  · obtain ⟨ms, s, c, e, rfl⟩ := h
    cases ms with
    | nil => cases e
    | cons m ms =>
      injection e with e1 e2
      subst e1 e2
      simp
      refine mixed_run hm fun v => ?_
      simp
      exact ⟨ms, rfl⟩
  · obtain ⟨ms, s, c, e, rfl⟩ := h
    simp
    rw [show (63 : Int) = ((63 : Nat) : Int) from rfl, cutD_to, List.take_of_length_le (by simpa using hn)]
    exact q _ ⟨0, 0, 0, s, 0, ns, by decide, rfl⟩
theorem take_tail {j : Nat} (hj : P j = some fdMixed) {a b c d e m : Int} {ns : List Int} {s2 s3 s4 : Sl} (hb : 0 ≤ b) (hm : 0 < m) (hm2 : m < 2 ^ 64) (q : ∀ st' v, St st' → 0 ≤ v → v < m → Q (.val (.int v), [.own st', .un])) :
    Post (exB (callF P (n + 1)) ((fdTake j).body.drop 3) [.own [.int a, .int b, .int c, .int d, .lst (ns.map D.int), .int e], .val (.int m), s2, s3, s4]) (endQ 2 (some 0) Q) := by
  simp [fdTake]
  have m0 : m ≠ 0 := by omega
  (first | refine If.hh (fun h => ?_) (fun h => ?_) | refine If.ha (fun h => ?_) (fun h => ?_) | refine If.ah (fun h => ?_) (fun h => ?_) | refine If.aa (fun h => ?_) (fun h => ?_))
  · simp
    refine mixed_run hj fun v => ?_
    simp [m0]
    exact q _ _ ⟨a, b, c, d, e, ns, hb, rfl⟩ (fmod_pos _ _ hm).1 (fmod_pos _ _ hm).2
  · simp [m0]
    have e1 : mulOk (a.fdiv m) (if 1 < e then 1 else 0) = true := mulOk_r (by split <;> decide) (by split <;> decide)
    exact ⟨log_small (by omega), e1, q _ _ ⟨_, b, c, d, _, ns, hb, rfl⟩ (fmod_pos _ _ hm).1 (fmod_pos _ _ hm).2⟩
theorem take_run {i j : Nat} (hP : P i = some (fdTake j)) (hj : P j = some fdMixed) {st : List D} {m : Int} (hs : St st) (hm : 0 < m) (hm2 : m < 2 ^ 64) (q : ∀ st' v, St st' → 0 ≤ v → v < m → Q (.val (.int v), [.own st', .un])) : Post (callF P (n + 2) i [.own st, .val (.int m)]) Q := by
  obtain ⟨a, b, c, d, e, ns, hb, rfl⟩ := hs
  rw [post_fn hP]
  simp [fdTake]
  have m0 : m ≠ 0 := by omega
  (first | refine If.hh (fun h => ?_) (fun h => ?_) | refine If.ha (fun h => ?_) (fun h => ?_) | refine If.ah (fun h => ?_) (fun h => ?_) | refine If.aa (fun h => ?_) (fun h => ?_))
  · have h : a = 0 := by simpa using h
    subst h
    simp
    (first | refine If.hh (fun h => ?_) (fun h => ?_) | refine If.ha (fun h => ?_) (fun h => ?_) | refine If.ah (fun h => ?_) (fun h => ?_) | refine If.aa (fun h => ?_) (fun h => ?_))
    · simp at h
      simp
      obtain ⟨k, rfl⟩ := Int.eq_ofNat_of_zero_le hb
      rw [atI_nat', List.getElem?_map, List.getElem?_eq_getElem (show k < ns.length by omega)]
      generalize ns[k]'_ = x
      simp
      (first | refine If.hh (fun h2 => ?_) (fun h2 => ?_) | refine If.ha (fun h2 => ?_) (fun h2 => ?_) | refine If.ah (fun h2 => ?_) (fun h2 => ?_) | refine If.aa (fun h2 => ?_) (fun h2 => ?_))
      · simp
        refine mixed_run hj fun v => ?_
        simp [m0]
        exact q _ _ ⟨0, _, _, _, _, ns, by omega, rfl⟩ (fmod_pos _ _ hm).1 (fmod_pos _ _ hm).2
      · simp
        have t := take_tail hj (n := n) (a := if x < 0 then -x else x) (b := (k : Int) + 1) (c := c + 1) (d := d) (e := 60) (ns := ns) (s2 := .val (.lst (ns.map D.int))) (s3 := .un) (s4 := .val (.int x)) (by omega) hm hm2 q
        simpa [fdTake] using t
    · simpa [fdTake] using take_tail hj (n := n) (a := 0) (b := b) (c := c + 1) (d := d) (e := e) (ns := ns) (s2 := .val (.lst (ns.map D.int))) (s3 := .un) (s4 := .un) hb hm hm2 q
  · simpa [fdTake] using take_tail hj (n := n) (a := a) (b := b) (c := c + 1) (d := d) (e := e) (ns := ns) (s2 := .val (.lst (ns.map D.int))) (s3 := .un) (s4 := .un) hb hm hm2 q
theorem pick_run {i j k : Nat} (hP : P i = some (fdPick k)) (hk : P k = some (fdTake j)) (hj : P j = some fdMixed) {st : List D} {ds : List D} (hs : St st) (h0 : ds ≠ []) (hl : ds.length < 2 ^ 64) (q : ∀ st' d, St st' → d ∈ ds → Q (.val d, [.own st', .un])) : Post (callF P (n + 3) i [.own st, .val (.lst ds)]) Q := by
  rw [post_fn hP]
  simp [fdPick]
  have lp := List.length_pos_iff.mpr h0
  refine take_run hk hj hs (by omega) (by omega) fun st' v hs' v0 vm => ?_
  simp
  obtain ⟨z, rfl⟩ := Int.eq_ofNat_of_zero_le v0
  rw [atI_nat', List.getElem?_eq_getElem (show z < ds.length by omega)]
  simp
  exact q _ _ hs' (List.getElem_mem _)
/-! ### the same, through and through -/
theorem same_int {i : Nat} (hP : P i = some (fdSame i)) {x : Int} (q : Q (.val (.bl true), [.un, .un])) : Post (callF P (n + 1) i [.val (.int x), .val (.int x)]) Q := by
  rw [post_fn hP]
  simp [fdSame, istD]
  exact q
theorem same_non {i : Nat} (hP : P i = some (fdSame i)) (q : Q (.val (.bl true), [.un, .un])) : Post (callF P (n + 1) i [.val .non, .val .non]) Q := by
  rw [post_fn hP]
  simp [fdSame, istD]
  exact q
theorem same_bl {i : Nat} (hP : P i = some (fdSame i)) {b : Bool} (q : Q (.val (.bl true), [.un, .un])) : Post (callF P (n + 1) i [.val (.bl b), .val (.bl b)]) Q := by
  rw [post_fn hP]
  simp [fdSame, istD]
  exact q
theorem same_tup {i m : Nat} (hP : P i = some (fdSame i)) {xs : List D} (hl : xs.length ≤ 1000000) (h : ∀ x ∈ xs, ∀ Q : Sl × List Sl → Prop, Q (.val (.bl true), [.un, .un]) → Post (callF P m i [.val x, .val x]) Q) (q : Q (.val (.bl true), [.un, .un])) :
    Post (callF P (m + 1) i [.val (.tup xs), .val (.tup xs)]) Q := by
  rw [post_fn hP]
  simp [fdSame, istD]
  refine ⟨rgOk_ok (by omega) (by omega) (by omega) (by omega), ?_⟩
  have hget := fun i d => @rgD_get 0 xs.length i d
  generalize rgD 0 xs.length = zs at hget ⊢
  refine forL_ix (fun i l => ∃ c, l = [.val (.tup xs), .val (.tup xs), c]) ⟨_, rfl⟩ (fun i d l hd hh => ?_) (fun l hh => ?_)
  · obtain ⟨c, rfl⟩ := hh
    obtain ⟨rfl, hi⟩ := hget _ _ hd
    have hi : i < xs.length := by omega
    simp
    rw [atI_nat', List.getElem?_eq_getElem hi]
    simp
    refine h _ (List.getElem_mem hi) _ ?_
    simp
  · obtain ⟨c, rfl⟩ := hh
    simpa using q
theorem same_fr {i : Nat} (hP : P i = some (fdSame i)) {x : Rat} (q : Q (.val (.bl true), [.un, .un])) : Post (callF P (n + 2) i [.val (fr x), .val (fr x)]) Q := by
  refine same_tup hP (by simp) (fun y hy Q q => ?_) q
  simp at hy
  rcases hy with rfl | rfl <;> exact same_int hP q
end
end DL

set_option Elab.async false
set_option linter.all false
set_option maxHeartbeats 4000000
/-! ## broken straight lines -/
namespace PLn
abbrev Cv := List (Rat × Rat)
def px (cs : Cv) (i : Nat) : Rat := (cs.getD i (0, 0)).1
def py (cs : Cv) (i : Nat) : Rat := (cs.getD i (0, 0)).2
def sw (cs : Cv) : Cv := cs.map fun p => (p.2, p.1)
def sh (c : Rat) (cs : Cv) : Cv := cs.map fun p => (p.1, p.2 + c)
structure Rise (cs : Cv) : Prop where
  two : 2 ≤ cs.length
  x : ∀ i, i + 1 < cs.length → px cs i < px cs (i + 1)
  y : ∀ i, i + 1 < cs.length → py cs i < py cs (i + 1)
def slope (cs : Cv) (k : Nat) : Rat := (py cs (k + 1) - py cs k) / (px cs (k + 1) - px cs k)
def line (cs : Cv) (k : Nat) (t : Rat) : Rat := py cs k + slope cs k * (t - px cs k)
structure Pce (cs : Cv) (k : Nat) (t : Rat) : Prop where
  lt : k + 2 ≤ cs.length
  lo : k = 0 ∨ px cs k ≤ t
  hi : k + 2 = cs.length ∨ t ≤ px cs (k + 1)
/-- d is the drop at t -/
def At (cs : Cv) (t d : Rat) : Prop := ∃ k, Pce cs k t ∧ d = line cs k t
@[simp] theorem sw_length (cs : Cv) : (sw cs).length = cs.length := by simp [sw]
@[simp] theorem sh_length (c : Rat) (cs : Cv) : (sh c cs).length = cs.length := by simp [sh]
theorem sw_px {cs : Cv} {i : Nat} (h : i < cs.length) : px (sw cs) i = py cs i := by simp [px, py, sw, List.getD, h]
theorem sw_py {cs : Cv} {i : Nat} (h : i < cs.length) : py (sw cs) i = px cs i := by simp [px, py, sw, List.getD, h]
theorem sh_px {c : Rat} {cs : Cv} {i : Nat} (h : i < cs.length) : px (sh c cs) i = px cs i := by simp [px, py, sh, List.getD, h]
theorem sh_py {c : Rat} {cs : Cv} {i : Nat} (h : i < cs.length) : py (sh c cs) i = py cs i + c := by simp [px, py, sh, List.getD, h]
theorem Rise.sw {cs : Cv} (r : Rise cs) : Rise (sw cs) := by
  refine ⟨by rw [sw_length]; exact r.two, fun i h => ?_, fun i h => ?_⟩
  · rw [sw_length] at h
    rw [sw_px (by omega), sw_px h]; exact r.y i h
  · rw [sw_length] at h
    rw [sw_py (by omega), sw_py h]; exact r.x i h
theorem Rise.sh {cs : Cv} (r : Rise cs) (c : Rat) : Rise (sh c cs) := by
  refine ⟨by rw [sh_length]; exact r.two, fun i h => ?_, fun i h => ?_⟩
  · rw [sh_length] at h
    rw [sh_px (by omega), sh_px h]; exact r.x i h
  · rw [sh_length] at h
    rw [sh_py (by omega), sh_py h]
    have := r.y i h
    grind
section
variable {cs : Cv}
theorem Rise.xle (r : Rise cs) : ∀ {i j : Nat}, i ≤ j → j < cs.length → px cs i ≤ px cs j := by
  intro i j hij hj
  induction j with
  | zero => have : i = 0 := by omega
            subst this; exact Rat.le_refl
  | succ j ih =>
    rcases Nat.lt_or_ge i (j + 1) with h | h
    · have h1 := ih (by omega) (by omega)
      have h2 := r.x j hj
      grind
    · have : i = j + 1 := by omega
      subst this; exact Rat.le_refl
theorem Rise.xlt (r : Rise cs) {i j : Nat} (hij : i < j) (hj : j < cs.length) : px cs i < px cs j := by
  have h1 := r.x i (by omega)
  have h2 := r.xle (i := i + 1) (j := j) (by omega) hj
  grind
theorem Rise.dx (r : Rise cs) {k : Nat} (h : k + 2 ≤ cs.length) : 0 < px cs (k + 1) - px cs k := by have := r.x k (by omega); grind
theorem Rise.dy (r : Rise cs) {k : Nat} (h : k + 2 ≤ cs.length) : 0 < py cs (k + 1) - py cs k := by have := r.y k (by omega); grind
theorem div_pos {a b : Rat} (ha : 0 < a) (hb : 0 < b) : 0 < a / b := by rw [Rat.div_def]; exact Rat.mul_pos ha (Rat.inv_pos.mpr hb)
theorem Rise.spos (r : Rise cs) {k : Nat} (h : k + 2 ≤ cs.length) : 0 < slope cs k := div_pos (r.dy h) (r.dx h)
theorem line_lo (cs : Cv) (k : Nat) : line cs k (px cs k) = py cs k := by unfold line; grind
theorem slope_mul (r : Rise cs) {k : Nat} (h : k + 2 ≤ cs.length) : slope cs k * (px cs (k + 1) - px cs k) = py cs (k + 1) - py cs k := by
  unfold slope
  exact Rat.div_mul_cancel (Rat.ne_of_gt (r.dx h))
theorem line_hi (r : Rise cs) {k : Nat} (h : k + 2 ≤ cs.length) : line cs k (px cs (k + 1)) = py cs (k + 1) := by
  unfold line
  rw [slope_mul r h]; grind
theorem line_le (r : Rise cs) {k : Nat} (h : k + 2 ≤ cs.length) {s t : Rat} (st : s ≤ t) : line cs k s ≤ line cs k t := by
  unfold line
  have := Rat.mul_le_mul_of_nonneg_left (c := slope cs k) (show s - px cs k ≤ t - px cs k by grind) (Rat.le_of_lt (r.spos h))
  grind
theorem line_lt (r : Rise cs) {k : Nat} (h : k + 2 ≤ cs.length) {s t : Rat} (st : s < t) : line cs k s < line cs k t := by
  unfold line
  have := Rat.mul_lt_mul_of_pos_left (c := slope cs k) (show s - px cs k < t - px cs k by grind) (r.spos h)
  grind
theorem good_lt (r : Rise cs) {j k : Nat} {t : Rat} (g : Pce cs j t) (g' : Pce cs k t) (h : j < k) : line cs j t = line cs k t := by
  have h1 : t ≤ px cs (j + 1) := g.hi.resolve_left (by have := g'.lt; omega)
  have h2 : px cs k ≤ t := g'.lo.resolve_left (by omega)
  have h3 : k = j + 1 := by
    rcases Nat.lt_or_ge (j + 1) k with z | z
    · have := r.xlt z (by have := g'.lt; omega)
      grind
    · omega
  subst h3
  have e : t = px cs (j + 1) := by grind
  subst e
  rw [line_hi r g.lt, line_lo]
theorem good_eq (r : Rise cs) {j k : Nat} {t : Rat} (g : Pce cs j t) (g' : Pce cs k t) : line cs j t = line cs k t := by
  rcases Nat.lt_trichotomy j k with h | h | h
  · exact good_lt r g g' h
  · subst h; rfl
  · exact (good_lt r g' g h).symm
theorem At.uniq (r : Rise cs) {t d e : Rat} (h : At cs t d) (g : At cs t e) : d = e := by
  obtain ⟨j, g1, rfl⟩ := h
  obtain ⟨k, g2, rfl⟩ := g
  exact good_eq r g1 g2
theorem Pce.sw (r : Rise cs) {k : Nat} {t : Rat} (g : Pce cs k t) : Pce (sw cs) k (line cs k t) := by
  have hk := g.lt
  refine ⟨by rw [sw_length]; exact hk, ?_, ?_⟩
  · rcases g.lo with z | z
    · exact .inl z
    · refine .inr ?_
      rw [sw_px (by omega), ← line_lo]
      exact line_le r hk z
  · rw [sw_length]
    rcases g.hi with z | z
    · exact .inl z
    · refine .inr ?_
      rw [sw_px (by omega), ← line_hi r hk]
      exact line_le r hk z
theorem line_sw (r : Rise cs) {k : Nat} (h : k + 2 ≤ cs.length) (t : Rat) : line (sw cs) k (line cs k t) = t := by
  have h1 := slope_mul r h
  have h2 := slope_mul r.sw (k := k) (by rw [sw_length]; exact h)
  have dx := r.dx h
  have dy := r.dy h
  unfold line at *
  rw [sw_px (by omega), sw_py (by omega)] at *
  rw [sw_px (by omega), sw_py (by omega)] at h2
  generalize slope (sw cs) k = s' at *
  generalize slope cs k = s at *
  have e : s' * s = 1 := by
    have e1 : (s' * s) * (px cs (k + 1) - px cs k) = 1 * (px cs (k + 1) - px cs k) := by grind
    have hne := Rat.ne_of_gt dx
    grind
  grind
/-- there and back -/
theorem At.back (r : Rise cs) {t d : Rat} (h : At cs t d) : At (sw cs) d t := by
  obtain ⟨k, g, rfl⟩ := h
  exact ⟨k, g.sw r, (line_sw r g.lt t).symm⟩
theorem sw_sw (cs : Cv) : sw (sw cs) = cs := by
  unfold sw
  rw [List.map_map]
  exact List.map_id _
theorem At.mono (r : Rise cs) {s t d e : Rat} (h : At cs s d) (g : At cs t e) (st : s < t) : d < e := by
  obtain ⟨j, g1, rfl⟩ := h
  obtain ⟨k, g2, rfl⟩ := g
  rcases Nat.lt_trichotomy j k with q | q | q
  · have h1 : s ≤ px cs (j + 1) := g1.hi.resolve_left (by have := g2.lt; omega)
    have h2 : px cs k ≤ t := g2.lo.resolve_left (by omega)
    have h3 := r.sw.xle (i := j + 1) (j := k) (by omega) (by rw [sw_length]; have := g2.lt; omega)
    have hk := g2.lt
    rw [sw_px (by omega), sw_px (by omega)] at h3
    have a1 := line_le r g1.lt h1
    have a2 := line_le r g2.lt h2
    rw [line_hi r g1.lt] at a1
    rw [line_lo] at a2
    rcases (show s < px cs (j + 1) ∨ s = px cs (j + 1) by grind) with z | z
    · have := line_lt r g1.lt z
      rw [line_hi r g1.lt] at this
      grind
    · have hx := r.xle (i := j + 1) (j := k) (by omega) (by omega)
      have : px cs k < t ∨ px cs k = t := by grind
      rcases this with y | y
      · have := line_lt r g2.lt y
        rw [line_lo] at this
        grind
      · have hne : j + 1 < k := by
          rcases Nat.lt_or_ge (j + 1) k with w | w
          · exact w
          · exfalso
            have : k = j + 1 := by omega
            subst this
            grind
        have h4 := r.sw.xlt hne (by rw [sw_length]; omega)
        rw [sw_px (by omega), sw_px (by omega)] at h4
        grind
  · subst q; exact line_lt r g1.lt st
  · exfalso
    have h1 : t ≤ px cs (k + 1) := g2.hi.resolve_left (by have := g1.lt; omega)
    have h2 : px cs j ≤ s := g1.lo.resolve_left (by omega)
    have h3 := r.xle (i := k + 1) (j := j) (by omega) (by have := g1.lt; omega)
    grind
theorem At.mono_iff (r : Rise cs) {s t d e : Rat} (h : At cs s d) (g : At cs t e) : s < t ↔ d < e := by
  refine ⟨h.mono r g, fun q => ?_⟩
  exact (h.back r).mono r.sw (g.back r) q
theorem At.shift (r : Rise cs) {t d : Rat} (c : Rat) (h : At cs t d) : At (sh c cs) t (d + c) := by
  obtain ⟨k, g, rfl⟩ := h
  have hk := g.lt
  refine ⟨k, ⟨by rw [sh_length]; exact g.lt, ?_, ?_⟩, ?_⟩
  · rw [sh_px (by omega)]; exact g.lo
  · rw [sh_px (by omega), sh_length]; exact g.hi
  · unfold line slope
    rw [sh_px (by omega), sh_py (by omega), sh_px (by omega), sh_py (by omega)]
    have : py cs (k + 1) + c - (py cs k + c) = py cs (k + 1) - py cs k := by grind
    rw [this]; grind
end
end PLn

set_option Elab.async false
set_option linter.all false
set_option maxRecDepth 100000
set_option maxHeartbeats 4000000
set_option exponentiation.threshold 20000
namespace DL
open PySem PySem.Spec PyProof.Rows L2 PLn

/-! ## laws as data -/
def fdSlopeOf (div sub : Nat) : FD := ⟨2, 2, none, [.ret (.call div none [0, 1] [.call sub none [0, 1] [.prim .ix [.prim .ix [.var 0, .prim .add [.var 1, .cst (.int 1)]], .cst (.int 1)], .prim .ix [.prim .ix [.var 0, .var 1], .cst (.int 1)]], .call sub none [0, 1] [.prim .ix [.prim .ix [.var 0, .prim .add [.var 1, .cst (.int 1)]], .cst (.int 0)], .prim .ix [.prim .ix [.var 0, .var 1], .cst (.int 0)]]])]⟩
def fdPieceOf (less : Nat) : FD := ⟨2, 3, none, [.fer (.name 2) 1 [.prim .sub [.prim .len [.var 0], .cst (.int 2)]] [.ite (.not (.call less none [0, 1] [.prim .ix [.prim .ix [.var 0, .prim .add [.var 2, .cst (.int 1)]], .cst (.int 0)], .var 1])) [.retv 2] []], .ret (.prim .sub [.prim .len [.var 0], .cst (.int 2)])]⟩
def fdDropOn (add mul slp sub : Nat) : FD := ⟨3, 5, none, [.asg (.tup [.name 3, .name 4]) (.prim .ix [.var 0, .var 1]), .ret (.call add none [0, 1] [.var 4, .call mul none [0, 1] [.call slp none [0, 1] [.var 0, .var 1], .call sub none [0, 1] [.var 2, .var 3]]])]⟩
def fdDropAt (on pc : Nat) : FD := ⟨2, 2, none, [.ret (.call on none [0, 1, 2] [.var 0, .call pc none [0, 1] [.var 0, .var 1], .var 1])]⟩
def fdMirrored : FD := ⟨1, 3, none, [.ret (.prim .tup [.comp (.pack true [.var 2, .var 1]) (.tup [.name 1, .name 2]) 0 [.var 0] [] [1, 2]])]⟩
def fdFlowAt (da mir : Nat) : FD := ⟨2, 2, none, [.ret (.call da none [0, 1] [.call mir none [0] [.var 0], .var 1])]⟩
def fdShifted (add : Nat) : FD := ⟨2, 4, none, [.ret (.prim .tup [.comp (.pack true [.var 2, .call add none [0, 1] [.var 3, .var 1]]) (.tup [.name 2, .name 3]) 0 [.var 0] [] [2, 3]])]⟩
def fdLLaw (pk tk fra : Nat) : FD := ⟨2, 13, some 0, [.asg (.tup [.name 3, .name 4]) (.pack true [.call pk (some 0) [0, 1] [.var 0, .pack false [.cst (.int 1), .cst (.int 1), .cst (.int 2), .cst (.int 3), .cst (.int 12), .prim .add [.cst (.int 1), .call tk (some 0) [0, 1] [.var 0, .cst (.int 12)]]]], .call pk (some 0) [0, 1] [.var 0, .pack false [.cst (.int 1), .cst (.int 1), .cst (.int 2), .cst (.int 5), .cst (.int 12), .prim .add [.cst (.int 1), .call tk (some 0) [0, 1] [.var 0, .cst (.int 12)]]]]]), .par [5, 6] [.prim .sub [.call tk (some 0) [0, 1] [.var 0, .cst (.int 41)], .cst (.int 20)], .prim .sub [.call tk (some 0) [0, 1] [.var 0, .cst (.int 41)], .cst (.int 20)]], .ite (.prim .eq [.call tk (some 0) [0, 1] [.var 0, .cst (.int 4)], .cst (.int 0)]) [.par [5, 6] [.prim .sub [.call tk (some 0) [0, 1] [.var 0, .cst (.int 1900)], .cst (.int 1000)], .prim .sub [.call tk (some 0) [0, 1] [.var 0, .cst (.int 1800)], .cst (.int 1000)]]] [], .par [7, 8] [.pack false [.pack true [.var 5, .var 6]], .pack true [.cst (.int 0), .cst (.int 1)]], .fer (.name 2) 1 [.prim .sub [.var 1, .cst (.int 1)]] [.par [10, 9] [.prim .add [.cst (.int 1), .call tk (some 0) [0, 1] [.var 0, .cst (.int 6)]], .prim .add [.cst (.int 1), .call tk (some 0) [0, 1] [.var 0, .call pk (some 0) [0, 1] [.var 0, .pack false [.cst (.int 3), .cst (.int 20)]]]]], .set 9 (.prim .add [.var 9, .prim .int [.and (.prim .gt [.var 2, .cst (.int 0)]) (.prim .eq [.prim .mul [.var 9, .prim .ix [.var 8, .cst (.int 1)]], .prim .mul [.prim .ix [.var 8, .cst (.int 0)], .var 10]])]]), .par [5, 6, 8] [.prim .add [.var 5, .var 10], .prim .add [.var 6, .var 9], .pack true [.var 9, .var 10]], .app 7 (.pack true [.var 5, .var 6])], .ret (.prim .tup [.comp (.pack true [.call fra none [0, 1] [.var 11, .var 3], .call fra none [0, 1] [.var 12, .var 4]]) (.tup [.name 11, .name 12]) 0 [.var 7] [] [11, 12]])]⟩
def fdLSlope (div sub : Nat) : FD := ⟨2, 2, none, [.ret (.call div none [0, 1] [.call sub none [0, 1] [.prim .ix [.var 1, .cst (.int 1)], .prim .ix [.var 0, .cst (.int 1)]], .call sub none [0, 1] [.prim .ix [.var 1, .cst (.int 0)], .prim .ix [.var 0, .cst (.int 0)]]])]⟩
def fdLDrop (less add mul slp sub : Nat) : FD := ⟨2, 4, none, [.set 2 (.cst (.int 0)), .fer (.name 3) 2 [.cst (.int 1), .prim .sub [.prim .len [.var 0], .cst (.int 1)]] [.set 2 (.ite (.not (.call less none [0, 1] [.var 1, .prim .ix [.prim .ix [.var 0, .var 3], .cst (.int 0)]])) (.var 3) (.var 2))], .ret (.call add none [0, 1] [.prim .ix [.prim .ix [.var 0, .var 2], .cst (.int 1)], .call mul none [0, 1] [.call slp none [0, 1] [.prim .ix [.var 0, .var 2], .prim .ix [.var 0, .prim .add [.var 2, .cst (.int 1)]]], .call sub none [0, 1] [.var 1, .prim .ix [.prim .ix [.var 0, .var 2], .cst (.int 0)]]]])]⟩
def fdSpots (fra tk add sub mul : Nat) : FD := ⟨2, 5, some 0, [.set 2 (.pack false [.pack true [.cst (.int 0), .cst (.int 1)], .pack true [.cst (.int 1), .cst (.int 1)], .pack true [.prim .neg [.cst (.int 1000000)], .cst (.int 1)], .pack true [.cst (.int 1000000), .cst (.int 1)], .pack true [.cst (.int 999999), .cst (.int 10000)], .call fra none [0, 1] [.prim .sub [.call tk (some 0) [0, 1] [.var 0, .cst (.int 4001)], .cst (.int 2000)], .prim .add [.cst (.int 1), .call tk (some 0) [0, 1] [.var 0, .cst (.int 30)]]]]), .fer (.name 3) 0 [.var 1] [.set 2 (.prim .add [.var 2, .pack false [.var 3, .call add none [0, 1] [.var 3, .pack true [.cst (.int 1), .cst (.int 100)]], .call sub none [0, 1] [.var 3, .pack true [.cst (.int 1), .cst (.int 100)]], .call add none [0, 1] [.var 3, .pack true [.cst (.int 1), .cst (.int 2)]]]])], .ret (.prim .add [.var 2, .comp (.call mul none [0, 1] [.call add none [0, 1] [.prim .ix [.var 1, .prim .sub [.var 4, .cst (.int 1)]], .prim .ix [.var 1, .var 4]], .pack true [.cst (.int 1), .cst (.int 2)]]) (.name 4) 2 [.cst (.int 1), .prim .len [.var 1]] [] [4]])]⟩

section
variable {Γ : Gam} {l : Loc}
theorem compL_mapf {bd : D → Loc → Option Loc} {el : Loc → R (Sl × Loc)} {ws : List Nat} {Q : List D × Loc → Prop} (I : Loc → Prop) (g : D → D) {xs : List D} (h : I l) (hl : xs.length ≤ 16777216)
    (step : ∀ d l, d ∈ xs → I l → On (bd d (wipeD l ws)) fun l1 => Post (el l1) fun r2 => r2.1.d = g d ∧ I (wipeD r2.2 ws))
    (done : ∀ l, I l → Q (xs.map g, l)) : Post (compL bd (evTs Γ []) el ws xs [] l) Q := by
  refine compL_map I (fun i y => ∃ d, xs[i]? = some d ∧ y = g d) h hl (fun i d l e hI => ?_) (fun ys l e hy hI => ?_)
  · have s := step d l (List.mem_of_getElem? e) hI
    cases eb : bd d (wipeD l ws) with
    | none => rw [eb] at s; exact s
    | some l1 =>
      rw [eb] at s
      exact Post.imp s fun r2 q => ⟨⟨d, e, q.1⟩, q.2⟩
  · have : ys = xs.map g := by
      refine List.ext_getElem (by rw [List.length_map, e]) fun i h1 h2 => ?_
      obtain ⟨d, e1, e2⟩ := hy i _ (List.getElem?_eq_getElem h1)
      rw [List.length_map] at h2
      rw [List.getElem?_eq_getElem h2] at e1
      cases e1
      rw [List.getElem_map]; exact e2
    subst this
    exact done l hI
end
abbrev cor (p : Rat × Rat) : D := .tup [fr p.1, fr p.2]
def crv (cs : Cv) : D := .tup (cs.map cor)
def Bds (N : Nat) (cs : Cv) : Prop := ∀ p ∈ cs, Bd N p.1 ∧ Bd N p.2
section
variable {cs : Cv} {N k : Nat}
theorem crv_at (h : k < cs.length) : atI (cs.map cor) (k : Int) = some (.tup [fr (px cs k), fr (py cs k)]) := by
  rw [atI_nat', List.getElem?_map, List.getElem?_eq_getElem h]
  simp [px, py, List.getD, h]
theorem crv_at1 (h : k + 1 < cs.length) : atI (cs.map cor) ((k : Int) + 1) = some (.tup [fr (px cs (k + 1)), fr (py cs (k + 1))]) := crv_at h
theorem mem_at (h : k < cs.length) : (px cs k, py cs k) ∈ cs := by
  have : (px cs k, py cs k) = cs[k] := by simp [px, py, List.getD, h]
  rw [this]; exact List.getElem_mem h
theorem Bds.x (b : Bds N cs) (h : k < cs.length) : Bd N (px cs k) := (b _ (mem_at h)).1
theorem Bds.y (b : Bds N cs) (h : k < cs.length) : Bd N (py cs k) := (b _ (mem_at h)).2
theorem Bds.sw (b : Bds N cs) : Bds N (sw cs) := fun p hp => by
  obtain ⟨q, hq, rfl⟩ := List.mem_map.mp hp
  exact ⟨(b q hq).2, (b q hq).1⟩
theorem Bds.mono {M : Nat} (b : Bds N cs) (h : N ≤ M) : Bds M cs := fun p hp => ⟨(b p hp).1.mono h, (b p hp).2.mono h⟩
theorem Bds.sh {M : Nat} {c : Rat} (b : Bds N cs) (h : Bd M c) : Bds (N + M + 1) (sh c cs) := fun p hp => by
  obtain ⟨q, hq, rfl⟩ := List.mem_map.mp hp
  exact ⟨(b q hq).1.mono (by omega), bd_add (b q hq).2 h⟩
theorem Bds.slope (b : Bds N cs) (r : Rise cs) (h : k + 2 ≤ cs.length) : Bd (4 * N + 2) (slope cs k) := by
  have h1 := bd_sub (b.y (k := k + 1) (by omega)) (b.y (k := k) (by omega))
  have h2 := bd_sub (b.x (k := k + 1) (by omega)) (b.x (k := k) (by omega))
  exact (bd_div h1 h2 (Rat.ne_of_gt (r.dx h))).mono (by omega)
theorem Bds.line {T : Nat} {t : Rat} (b : Bds N cs) (r : Rise cs) (h : k + 2 ≤ cs.length) (ht : Bd T t) : Bd (6 * N + T + 4) (line cs k t) := by
  have h1 := b.slope r h
  have h2 := bd_sub ht (b.x (k := k) (by omega))
  exact (bd_add (b.y (k := k) (by omega)) (bd_mul h1 h2)).mono (by omega)
theorem Bds.at_ {T : Nat} {t d : Rat} (b : Bds N cs) (r : Rise cs) (h : At cs t d) (ht : Bd T t) : Bd (6 * N + T + 4) d := by
  obtain ⟨k, g, rfl⟩ := h
  exact b.line r g.lt ht
end
section
variable {P : Nat → Option FD} {Q : Sl × List Sl → Prop} {n N T k i f : Nat} {cs : Cv} {t : Rat}
theorem slopeOf_run {dv sb : Nat} (hP : P i = some (fdSlopeOf dv sb)) (hd : P dv = some (fdDiv f)) (hs : P sb = some (fdSub f)) (F : Frb P f) (r : Rise cs) (b : Bds N cs) (hk : k + 2 ≤ cs.length) (hN : 4 * N + 10 ≤ 4000) (q : Q (.val (fr (slope cs k)), [.un, .un])) :
    Post (callF P (n + 4) i [.val (crv cs), .val (.int k)]) Q := by
  rw [post_fn hP]
  unfold crv
  simp [fdSlopeOf, crv_at (show k < cs.length by omega), crv_at1 (show k + 1 < cs.length by omega)]
  refine sub_run hs F (b.y (k := k + 1) (by omega)) (b.y (k := k) (by omega)) (by omega) ?_
  simp [crv_at (show k < cs.length by omega), crv_at1 (show k + 1 < cs.length by omega)]
  refine sub_run hs F (b.x (k := k + 1) (by omega)) (b.x (k := k) (by omega)) (by omega) ?_
  simp
  refine div_run hd F (bd_sub (b.y (k := k + 1) (by omega)) (b.y (k := k) (by omega))) (bd_sub (b.x (k := k + 1) (by omega)) (b.x (k := k) (by omega))) (Rat.ne_of_gt (r.dx hk)) (by omega) ?_
  simp
  exact q
theorem pieceOf_run {le : Nat} (hP : P i = some (fdPieceOf le)) (hl : P le = some fdLess) (r : Rise cs) (b : Bds N cs) (bt : Bd T t) (hc : cs.length ≤ 1000) (hN : N + T + 1 ≤ 4000) (q : ∀ k : Nat, Pce cs k t → Q (.val (.int k), [.un, .un])) :
    Post (callF P (n + 2) i [.val (crv cs), .val (fr t)]) Q := by
  rw [post_fn hP]
  have h2 := r.two
  simp [fdPieceOf, crv]
  refine ⟨rgOk_ok (by omega) (by omega) (by omega) (by omega), ?_⟩
  have hget := fun i d => @rgD_get 0 ((cs.length : Int) - 2) i d
  have hlen := rgD_length 0 ((cs.length : Int) - 2)
  generalize rgD 0 ((cs.length : Int) - 2) = zs at hget hlen ⊢
  refine forL_ix (fun i l => ∃ c, l = [.val (.tup (cs.map cor)), .val (fr t), c] ∧ (i = 0 ∨ px cs i ≤ t)) ⟨_, rfl, .inl rfl⟩ (fun i d l hd hh => ?_) (fun l hh => ?_)
  · obtain ⟨c, rfl, h0⟩ := hh
    obtain ⟨rfl, hi⟩ := hget _ _ hd
    have hi : i + 2 < cs.length := by omega
    simp [crv_at1 (show i + 1 < cs.length by omega)]
    refine less_run hl (b.x (k := i + 1) (by omega)) bt hN ?_
    simp
    (first | refine If.hh (fun hlt => ?_) (fun hlt => ?_) | refine If.ha (fun hlt => ?_) (fun hlt => ?_) | refine If.ah (fun hlt => ?_) (fun hlt => ?_) | refine If.aa (fun hlt => ?_) (fun hlt => ?_))
    · have hlt : ¬ px cs (i + 1) < t := by simpa using hlt
      simp
      exact q i ⟨by omega, h0, .inr (by grind)⟩
    · have hlt : px cs (i + 1) < t := by simpa using hlt
      simp
      exact Rat.le_of_lt hlt
  · obtain ⟨c, rfl, h0⟩ := hh
    simp
    have e : (cs.length : Int) - 2 = ((cs.length - 2 : Nat) : Int) := by omega
    rw [e]
    refine q _ ⟨by omega, ?_, .inl (by omega)⟩
    rcases h0 with z | z
    · exact .inl (by omega)
    · refine .inr ?_
      have : cs.length - 2 = zs.length := by omega
      rw [this]; exact z
theorem dropOn_run {ad ml sl sb dv : Nat} (hP : P i = some (fdDropOn ad ml sl sb)) (ha : P ad = some (fdAdd f)) (hm : P ml = some (fdMul f)) (hS : P sl = some (fdSlopeOf dv sb)) (hd : P dv = some (fdDiv f)) (hs : P sb = some (fdSub f)) (F : Frb P f)
    (r : Rise cs) (b : Bds N cs) (bt : Bd T t) (hk : k + 2 ≤ cs.length) (hN : 6 * N + T + 10 ≤ 4000) (q : Q (.val (fr (line cs k t)), [.un, .un, .un])) : Post (callF P (n + 5) i [.val (crv cs), .val (.int k), .val (fr t)]) Q := by
  rw [post_fn hP]
  have ec : crv cs = .tup (cs.map cor) := rfl
  simp [fdDropOn, ec, crv_at (show k < cs.length by omega)]
  rw [← ec]
  refine slopeOf_run hS hd hs F r b hk (by omega) ?_
  simp
  refine sub_run hs F bt (b.x (k := k) (by omega)) (by omega) ?_
  simp
  refine mul_run hm F (b.slope r hk) (bd_sub bt (b.x (k := k) (by omega))) (by omega) ?_
  simp
  refine add_run ha F (b.y (k := k) (by omega)) (bd_mul (b.slope r hk) (bd_sub bt (b.x (k := k) (by omega)))) (by omega) ?_
  simp
  exact q
/-- the functions of laws that drop_at leans on -/
structure DropP (P : Nat → Option FD) (i : Nat) : Prop where
  ex : ∃ f on pc le ad ml sl sb dv, P i = some (fdDropAt on pc) ∧ P on = some (fdDropOn ad ml sl sb) ∧ P pc = some (fdPieceOf le) ∧ P le = some fdLess ∧ P ad = some (fdAdd f) ∧ P ml = some (fdMul f) ∧ P sl = some (fdSlopeOf dv sb) ∧ P dv = some (fdDiv f) ∧ P sb = some (fdSub f) ∧ Frb P f
theorem dropAt_run (H : DropP P i) (r : Rise cs) (b : Bds N cs) (bt : Bd T t) (hc : cs.length ≤ 1000) (hN : 6 * N + T + 10 ≤ 4000) (q : ∀ d, At cs t d → Q (.val (fr d), [.un, .un])) : Post (callF P (n + 6) i [.val (crv cs), .val (fr t)]) Q := by
  obtain ⟨f, on, pc, le, ad, ml, sl, sb, dv, h1, h2, h3, h4, h5, h6, h7, h8, h9, F⟩ := H.ex
  rw [post_fn h1]
  simp [fdDropAt]
  refine pieceOf_run h3 h4 r b bt hc (by omega) fun k g => ?_
  simp
  refine dropOn_run h2 h5 h6 h7 h8 h9 F r b bt g.lt hN ?_
  simp
  exact q _ ⟨k, g, rfl⟩
theorem crv_sw (cs : Cv) : crv (sw cs) = .tup (cs.map fun p => .tup [fr p.2, fr p.1]) := by unfold crv sw; rw [List.map_map]; rfl
theorem crv_sh (c : Rat) (cs : Cv) : crv (sh c cs) = .tup (cs.map fun p => .tup [fr p.1, fr (p.2 + c)]) := by unfold crv sh; rw [List.map_map]; rfl
theorem mem_cor {d : D} (h : d ∈ cs.map cor) : ∃ p ∈ cs, d = .tup [fr p.1, fr p.2] := by
  obtain ⟨p, hp, rfl⟩ := List.mem_map.mp h
  exact ⟨p, hp, rfl⟩
/-- the corners turned: a comprehension's step -/
def turnD : D → D
  | .tup [a, b] => .tup [b, a]
  | d => d
theorem turnD_map (cs : Cv) : D.tup ((cs.map cor).map turnD) = crv (sw cs) := by rw [crv_sw, List.map_map]; rfl
theorem mirrored_run (hP : P i = some fdMirrored) (hc : cs.length ≤ 1000) (q : Q (.val (crv (sw cs)), [.un])) : Post (callF P (n + 1) i [.val (crv cs)]) Q := by
  rw [post_fn hP]
  simp [fdMirrored, crv]
  refine compL_mapf (fun l => l = [.val (.tup (cs.map cor)), .un, .un]) turnD rfl (by rw [List.length_map]; omega) (fun d l hd hl => ?_) (fun l hl => ?_)
  · subst hl
    obtain ⟨p, hp, rfl⟩ := mem_cor hd
    simp [turnD]
  · subst hl
    simp
    have := turnD_map cs
    rw [List.map_map] at this
    rw [this]
    exact q
theorem flowAt_run {m da : Nat} (hP : P i = some (fdFlowAt da m)) (hm : P m = some fdMirrored) (H : DropP P da) (r : Rise cs) (b : Bds N cs) (bt : Bd T t) (hc : cs.length ≤ 1000) (hN : 6 * N + T + 10 ≤ 4000) (q : ∀ d, At (sw cs) t d → Q (.val (fr d), [.un, .un])) :
    Post (callF P (n + 7) i [.val (crv cs), .val (fr t)]) Q := by
  rw [post_fn hP]
  simp [fdFlowAt]
  refine mirrored_run hm hc ?_
  simp
  refine dropAt_run H r.sw b.sw bt (by simpa using hc) hN fun d hd => ?_
  simp
  exact q d hd
def shD (c : Rat) : D → D
  | .tup [a, .tup [.int x, .int y]] => .tup [a, fr (Rat.divInt x y + c)]
  | d => d
theorem shifted_run {ad : Nat} {c : Rat} (hP : P i = some (fdShifted ad)) (ha : P ad = some (fdAdd f)) (F : Frb P f) (b : Bds N cs) (bc : Bd T c) (hc : cs.length ≤ 1000) (hN : N + T + 10 ≤ 4000) (q : Q (.val (crv (sh c cs)), [.un, .un])) :
    Post (callF P (n + 4) i [.val (crv cs), .val (fr c)]) Q := by
  rw [post_fn hP]
  simp [fdShifted, crv]
  refine compL_mapf (fun l => l = [.val (.tup (cs.map cor)), .val (fr c), .un, .un]) (shD c) rfl (by rw [List.length_map]; omega) (fun d l hd hl => ?_) (fun l hl => ?_)
  · subst hl
    obtain ⟨p, hp, rfl⟩ := mem_cor hd
    simp
    refine add_run ha F (b p hp).2 bc (by omega) ?_
    simp [shD, fr, Rat.num_divInt_den]
  · subst hl
    have e : D.tup ((cs.map cor).map (shD c)) = crv (sh c cs) := by
      rw [crv_sh, List.map_map]
      refine congrArg D.tup (List.map_congr_left fun p hp => ?_)
      simp [shD, cor, fr, Rat.num_divInt_den]
    simp
    rw [List.map_map] at e
    rw [e]
    exact q
/-! ### the law's own -/
theorem lslope_run {dv sb : Nat} (hP : P i = some (fdLSlope dv sb)) (hd : P dv = some (fdDiv f)) (hs : P sb = some (fdSub f)) (F : Frb P f) (r : Rise cs) (b : Bds N cs) (hk : k + 2 ≤ cs.length) (hN : 4 * N + 10 ≤ 4000) (q : Q (.val (fr (slope cs k)), [.un, .un])) :
    Post (callF P (n + 4) i [.val (.tup [fr (px cs k), fr (py cs k)]), .val (.tup [fr (px cs (k + 1)), fr (py cs (k + 1))])]) Q := by
  rw [post_fn hP]
  simp [fdLSlope]
  refine sub_run hs F (b.y (k := k + 1) (by omega)) (b.y (k := k) (by omega)) (by omega) ?_
  simp
  refine sub_run hs F (b.x (k := k + 1) (by omega)) (b.x (k := k) (by omega)) (by omega) ?_
  simp
  refine div_run hd F (bd_sub (b.y (k := k + 1) (by omega)) (b.y (k := k) (by omega))) (bd_sub (b.x (k := k + 1) (by omega)) (b.x (k := k) (by omega))) (Rat.ne_of_gt (r.dx hk)) (by omega) ?_
  simp
  exact q
structure LDropP (P : Nat → Option FD) (i : Nat) : Prop where
  ex : ∃ f le ad ml sl sb dv, P i = some (fdLDrop le ad ml sl sb) ∧ P le = some fdLess ∧ P ad = some (fdAdd f) ∧ P ml = some (fdMul f) ∧ P sl = some (fdLSlope dv sb) ∧ P dv = some (fdDiv f) ∧ P sb = some (fdSub f) ∧ Frb P f
theorem ldrop_run (H : LDropP P i) (r : Rise cs) (b : Bds N cs) (bt : Bd T t) (hc : cs.length ≤ 1000) (hN : 6 * N + T + 10 ≤ 4000) (q : ∀ d, At cs t d → Q (.val (fr d), [.un, .un])) : Post (callF P (n + 5) i [.val (crv cs), .val (fr t)]) Q := by
  obtain ⟨f, le, ad, ml, sl, sb, dv, h1, h4, h5, h6, h7, h8, h9, F⟩ := H.ex
  have h2 := r.two
  rw [post_fn h1]
  simp [fdLDrop, crv]
  refine ⟨rgOk_ok (by omega) (by omega) (by omega) (by omega), ?_⟩
  have hget := fun i d => @rgD_get 1 ((cs.length : Int) - 1) i d
  have hlen := rgD_length 1 ((cs.length : Int) - 1)
  generalize rgD 1 ((cs.length : Int) - 1) = zs at hget hlen ⊢
  refine forL_ix (fun i l => ∃ (k : Nat) (c : Sl), l = [.val (.tup (cs.map cor)), .val (fr t), .val (.int k), c] ∧ k ≤ i ∧ (k = 0 ∨ px cs k ≤ t) ∧ (k = i ∨ t < px cs (k + 1))) ⟨0, _, rfl, by omega, .inl rfl, .inl rfl⟩ (fun i d l hd hh => ?_) (fun l hh => ?_)
  · obtain ⟨k, c, rfl, ki, h0, h3⟩ := hh
    obtain ⟨rfl, hi⟩ := hget _ _ hd
    have hi : i + 2 < cs.length := by omega
    have e1 : (1 : Int) + (i : Int) = ((i + 1 : Nat) : Int) := by omega
    simp only [e1]
    have hx : px cs k ≤ px cs (i + 1) := r.xle (by omega) (by omega)
    simp [crv_at1 (show i + 1 < cs.length by omega)]
    refine less_run h4 bt (b.x (k := i + 1) (by omega)) (by omega) ?_
    simp
    (first | refine If.hh (fun hlt => ?_) (fun hlt => ?_) | refine If.ha (fun hlt => ?_) (fun hlt => ?_) | refine If.ah (fun hlt => ?_) (fun hlt => ?_) | refine If.aa (fun hlt => ?_) (fun hlt => ?_))
    · have hlt : ¬ t < px cs (i + 1) := by simpa using hlt
      simp
      exact ⟨i + 1, rfl, by omega, .inr (by grind), .inl rfl⟩
    · have hlt : t < px cs (i + 1) := by simpa using hlt
      simp
      refine ⟨k, rfl, by omega, h0, .inr ?_⟩
      rcases h3 with z | z
      · subst z; exact hlt
      · exact z
  · obtain ⟨k, c, rfl, ki, h0, h3⟩ := hh
    have hk : k + 2 ≤ cs.length := by omega
    simp [crv_at (show k < cs.length by omega), crv_at1 (show k + 1 < cs.length by omega)]
    refine lslope_run h7 h8 h9 F r b hk (by omega) ?_
    simp [crv_at (show k < cs.length by omega)]
    refine sub_run h9 F bt (b.x (k := k) (by omega)) (by omega) ?_
    simp
    refine mul_run h6 F (b.slope r hk) (bd_sub bt (b.x (k := k) (by omega))) (by omega) ?_
    simp
    refine add_run h5 F (b.y (k := k) (by omega)) (bd_mul (b.slope r hk) (bd_sub bt (b.x (k := k) (by omega)))) (by omega) ?_
    simp
    refine q _ ⟨k, ⟨hk, h0, ?_⟩, rfl⟩
    rcases h3 with z | z
    · exact .inl (by omega)
    · exact .inr (Rat.le_of_lt z)
end
end DL

set_option Elab.async false
set_option linter.all false
set_option maxRecDepth 100000
set_option maxHeartbeats 4000000
set_option exponentiation.threshold 20000
namespace DL
open PySem PySem.Spec PyProof.Rows L2 PLn

/-! ## drawn laws -/
structure Drw (P : Nat → Option FD) (tk pk : Nat) : Prop where
  ex : ∃ j, P pk = some (fdPick tk) ∧ P tk = some (fdTake j) ∧ P j = some fdMixed
section
variable {P : Nat → Option FD} {Q : Sl × List Sl → Prop} {n tk pk : Nat} {st : List D}
theorem Drw.take (H : Drw P tk pk) {m : Int} (hs : St st) (hm : 0 < m) (hm2 : m < 2 ^ 64) (q : ∀ st' v, St st' → 0 ≤ v → v < m → Q (.val (.int v), [.own st', .un])) : Post (callF P (n + 2) tk [.own st, .val (.int m)]) Q := by
  obtain ⟨j, h1, h2, h3⟩ := H.ex
  exact take_run h2 h3 hs hm hm2 q
theorem Drw.pick (H : Drw P tk pk) {ds : List D} (hs : St st) (h0 : ds ≠ []) (hl : ds.length < 2 ^ 64) (q : ∀ st' d, St st' → d ∈ ds → Q (.val d, [.own st', .un])) : Post (callF P (n + 3) pk [.own st, .val (.lst ds)]) Q := by
  obtain ⟨j, h1, h2, h3⟩ := H.ex
  exact pick_run h1 h2 h3 hs h0 hl q
/-- .. of ints between two -/
theorem Drw.pickI (H : Drw P tk pk) {ds : List D} (lo hi : Int) (hs : St st) (h0 : ds ≠ []) (hl : ds.length < 2 ^ 64) (hd : ∀ d ∈ ds, ∃ x : Int, d = .int x ∧ lo ≤ x ∧ x ≤ hi) (q : ∀ st' x, St st' → lo ≤ x → x ≤ hi → Q (.val (.int x), [.own st', .un])) : Post (callF P (n + 3) pk [.own st, .val (.lst ds)]) Q :=
  H.pick hs h0 hl fun st' d h1 h2 => by
    obtain ⟨x, rfl, a, b⟩ := hd d h2
    exact q st' x h1 a b
end
abbrev ip (p : Int × Int) : D := .tup [.int p.1, .int p.2]
/-- corners that rise, up to (a, b) -/
structure Cor (L : List (Int × Int)) (a b : Int) : Prop where
  up : L.Pairwise fun p q => p.1 < q.1 ∧ p.2 < q.2
  le : ∀ p ∈ L, p.1 ≤ a ∧ p.2 ≤ b ∧ -1000 ≤ p.1 ∧ -1000 ≤ p.2
theorem Cor.add {L : List (Int × Int)} {a b s r : Int} (h : Cor L a b) (ha : -1000 ≤ a) (hb : -1000 ≤ b) (hs : 1 ≤ s) (hr : 1 ≤ r) : Cor (L ++ [(a + s, b + r)]) (a + s) (b + r) := by
  refine ⟨List.pairwise_append.mpr ⟨h.up, List.pairwise_singleton _ _, fun p hp q hq => ?_⟩, fun p hp => ?_⟩
  · rw [List.mem_singleton.mp hq]
    have := h.le p hp
    exact ⟨by show p.1 < a + s; omega, by show p.2 < b + r; omega⟩
  · rcases List.mem_append.mp hp with z | z
    · have := h.le p z
      omega
    · rw [List.mem_singleton.mp z]
      exact ⟨Int.le_refl _, Int.le_refl _, by show -1000 ≤ a + s; omega, by show -1000 ≤ b + r; omega⟩
/-- the loop that draws corners -/
def InvC (m w dp : Int) (i : Nat) (l : Loc) : Prop := ∃ (st : List D) (L : List (Int × Int)) (a b r s : Int) (c2 c9 c10 : Sl), St st ∧ L.length = i + 1 ∧ Cor L a b ∧ -1000 ≤ a ∧ a ≤ 1000 + 6 * i ∧ -1000 ≤ b ∧ b ≤ 1000 + 21 * i ∧ 0 ≤ r ∧ r ≤ 21 ∧ 0 ≤ s ∧ s ≤ 6 ∧
  l = [.own st, .val (.int m), c2, .val (.int w), .val (.int dp), .val (.int a), .val (.int b), .own (L.map ip), .val (.tup [.int r, .int s]), c9, c10, .un, .un]
theorem divInt_lt {a b w : Int} (hw : 0 < w) (h : a < b) : Rat.divInt a w < Rat.divInt b w := by
  rw [Rat.divInt_eq_div, Rat.divInt_eq_div, Rat.div_def, Rat.div_def]
  exact Rat.mul_lt_mul_of_pos_right (Rat.intCast_lt_intCast.mpr h) (Rat.inv_pos.mpr (Rat.intCast_pos.mpr hw))
def cvOf (w dp : Int) (L : List (Int × Int)) : Cv := L.map fun p => (Rat.divInt p.1 w, Rat.divInt p.2 dp)
theorem cvOf_rise {w dp : Int} {L : List (Int × Int)} {a b : Int} (hw : 0 < w) (hd : 0 < dp) (h : Cor L a b) (h2 : 2 ≤ L.length) : Rise (cvOf w dp L) := by
  have key : ∀ i, i + 1 < L.length → (L.getD i (0, 0)).1 < (L.getD (i + 1) (0, 0)).1 ∧ (L.getD i (0, 0)).2 < (L.getD (i + 1) (0, 0)).2 := fun i hi => by
    have := List.pairwise_iff_getElem.mp h.up i (i + 1) (by omega) hi (by omega)
    simp only [List.getD, List.getElem?_eq_getElem hi, List.getElem?_eq_getElem (show i < L.length by omega), Option.getD_some]
    exact this
  have px_eq : ∀ i, i < L.length → px (cvOf w dp L) i = Rat.divInt (L.getD i (0, 0)).1 w := fun i hi => by simp [px, cvOf, List.getD, hi]
  have py_eq : ∀ i, i < L.length → py (cvOf w dp L) i = Rat.divInt (L.getD i (0, 0)).2 dp := fun i hi => by simp [py, cvOf, List.getD, hi]
  have hl : (cvOf w dp L).length = L.length := by simp [cvOf]
  refine ⟨by omega, fun i hi => ?_, fun i hi => ?_⟩
  · rw [px_eq i (by omega), px_eq (i + 1) (by omega)]
    exact divInt_lt hw (key i (by omega)).1
  · rw [py_eq i (by omega), py_eq (i + 1) (by omega)]
    exact divInt_lt hd (key i (by omega)).2
theorem cvOf_bds {w dp : Int} {L : List (Int × Int)} {a b : Int} (hw : 0 < w) (hd : 0 < dp) (hw2 : w ≤ 12) (hd2 : dp ≤ 12) (h : Cor L a b) (ha : a ≤ 4000) (hb : b ≤ 4000) : Bds 12 (cvOf w dp L) := fun p hp => by
  obtain ⟨q, hq, rfl⟩ := List.mem_map.mp hp
  have := h.le q hq
  exact ⟨bd_divInt (by omega) (by omega) (by omega), bd_divInt (by omega) (by omega) (by omega)⟩
def mkD (w dp : Int) : D → D
  | .tup [.int a, .int b] => cor (Rat.divInt a w, Rat.divInt b dp)
  | d => d
section
variable {P : Nat → Option FD} {Q : Sl × List Sl → Prop} {n tk pk i f : Nat} {st : List D}
theorem llaw_run (hP : P i = some (fdLLaw pk tk f)) (H : Drw P tk pk) (F : Frb P f) {m : Int} (hs : St st) (hm : 2 ≤ m) (hm2 : m ≤ 9) (q : ∀ st' cs, St st' → Rise cs → Bds 12 cs → (cs.length : Int) = m → Q (.val (crv cs), [.own st', .un])) :
    Post (callF P (n + 4) i [.own st, .val (.int m)]) Q := by
  rw [post_fn hP]
  simp [fdLLaw]
  refine H.take hs (by decide) (by decide) fun st v hs v0 v1 => ?_
  simp
  refine H.pickI 1 12 hs (by simp) (by simp) (by simp; omega) fun st w hs w0 w1 => ?_
  simp
  refine H.take hs (by decide) (by decide) fun st v hs v0 v1 => ?_
  simp
  refine H.pickI 1 12 hs (by simp) (by simp) (by simp; omega) fun st dp hs d0 d1 => ?_
  simp
  refine H.take hs (by decide) (by decide) fun st v1 hs a1 a2 => ?_
  simp
  refine H.take hs (by decide) (by decide) fun st v2 hs b1 b2 => ?_
  simp
  refine H.take hs (by decide) (by decide) fun st v3 hs c1 c2 => ?_
  simp
  have rest : ∀ {st : List D} {a b : Int} {c2 c9 c10 : Sl}, St st → -1000 ≤ a → a ≤ 1000 → -1000 ≤ b → b ≤ 1000 →
      Post (exB (callF P (n + 3)) ((fdLLaw pk tk f).body.drop 3) [.own st, .val (.int m), c2, .val (.int w), .val (.int dp), .val (.int a), .val (.int b), .un, .un, c9, c10, .un, .un]) (endQ 2 (some 0) Q) := by
    intro st a b c2 c9 c10 hs a1 a2 b1 b2
    simp [fdLLaw]
    refine ⟨rgOk_ok (by omega) (by omega) (by omega) (by omega), ?_⟩
    have hget := fun i d => @rgD_get 0 (m - 1) i d
    have hlen := rgD_length 0 (m - 1)
    generalize rgD 0 (m - 1) = zs at hget hlen ⊢
    refine forL_ix (InvC m w dp) ⟨st, [(a, b)], a, b, 0, 1, _, _, _, hs, rfl, ⟨List.pairwise_singleton _ _, fun p hp => ?_⟩, a1, by omega, b1, by omega, by decide, by decide, by decide, by decide, rfl⟩ (fun i d l hd hh => ?_) (fun l hh => ?_)
    · rw [List.mem_singleton.mp hp]; exact ⟨Int.le_refl _, Int.le_refl _, a1, b1⟩
    · obtain ⟨st, L, a, b, r, s, c2, c9, c10, hs, hL, hC, a1, a2, b1, b2, r1, r2, s1, s2, rfl⟩ := hh
      obtain ⟨rfl, hi⟩ := hget _ _ hd
      have fin : ∀ {st : List D} {c2 c9 : Sl} {ds : List D} {x y r' s' : Int}, St st → 1 ≤ r' → r' ≤ 21 → 1 ≤ s' → s' ≤ 6 → x = a + s' → y = b + r' → ds = L.map ip ++ [.tup [.int x, .int y]] →
          InvC m w dp (i + 1) [.own st, .val (.int m), c2, .val (.int w), .val (.int dp), .val (.int x), .val (.int y), .own ds, .val (.tup [.int r', .int s']), c9, .val (.int s'), .un, .un] :=
        fun {st c2 c9 ds x y r' s'} hs r1 r2 s1 s2 ex ey ed => by
          subst ex ey ed
          refine ⟨st, L ++ [(a + s', b + r')], a + s', b + r', r', s', c2, c9, .val (.int s'), hs, by simp [hL], hC.add a1 b1 s1 r1, by omega, by push_cast; omega, by omega, by push_cast; omega, by omega, r2, by omega, s2, ?_⟩
          simp
      simp
      refine H.take hs (by decide) (by decide) fun st v1 hs e1 e2 => ?_
      simp
      refine H.pickI 3 20 hs (by simp) (by simp) (by simp) fun st lim hs l0 l1 => ?_
      simp
      refine H.take hs (by omega) (by omega) fun st v2 hs f1 f2 => ?_
      simp
      have hLl : L.length < 16777216 := by omega
      (first | refine If.hh (fun h => ?_) (fun h => ?_) | refine If.ha (fun h => ?_) (fun h => ?_) | refine If.ah (fun h => ?_) (fun h => ?_) | refine If.aa (fun h => ?_) (fun h => ?_))
      · simp
        refine ⟨mulOk_r (by omega) (by omega), mulOk_r (by omega) (by omega), ?_⟩
        refine ⟨hLl, fin hs (by split <;> omega) (by split <;> omega) (by omega) (by omega) rfl rfl rfl⟩
      · simp
        exact ⟨hLl, fin hs (by omega) (by omega) (by omega) (by omega) rfl rfl rfl⟩
    · obtain ⟨st, L, a, b, r, s, c2, c9, c10, hs, hL, hC, a1, a2, b1, b2, r1, r2, s1, s2, rfl⟩ := hh
      simp
      refine compL_mapf (fun l => l = [.own st, .val (.int m), c2, .val (.int w), .val (.int dp), .val (.int a), .val (.int b), .val (.lst (L.map ip)), .val (.tup [.int r, .int s]), c9, c10, .un, .un]) (mkD w dp) rfl (by rw [List.length_map]; omega) (fun d l hd hl => ?_) (fun l hl => ?_)
      · subst hl
        obtain ⟨p, hp, rfl⟩ := List.mem_map.mp hd
        have hp := hC.le p hp
        simp
        refine F.run (N := 12) (by decide) (by omega) (by omega) (by omega) ?_
        simp
        refine F.run (N := 12) (by decide) (by omega) (by omega) (by omega) ?_
        simp [mkD]
      · subst hl
        simp
        have e : D.tup ((L.map ip).map (mkD w dp)) = crv (cvOf w dp L) := by
          unfold crv cvOf
          rw [List.map_map, List.map_map]
          rfl
        rw [List.map_map] at e
        rw [e]
        exact q _ _ hs (cvOf_rise (by omega) (by omega) hC (by omega)) (cvOf_bds (by omega) (by omega) w1 d1 hC (by omega) (by omega)) (by simp [cvOf]; omega)
  (first | refine If.hh (fun h => ?_) (fun h => ?_) | refine If.ha (fun h => ?_) (fun h => ?_) | refine If.ah (fun h => ?_) (fun h => ?_) | refine If.aa (fun h => ?_) (fun h => ?_))
  · simp
    refine H.take hs (by decide) (by decide) fun st v4 hs e1 e2 => ?_
    simp
    refine H.take hs (by decide) (by decide) fun st v5 hs f1 f2 => ?_
    simpa [fdLLaw] using rest (a := v4 - 1000) (b := v5 - 1000) hs (by omega) (by omega) (by omega) (by omega)
  · simpa [fdLLaw] using rest (a := v1 - 20) (b := v2 - 20) hs (by omega) (by omega) (by omega) (by omega)
end
end DL

set_option Elab.async false
set_option linter.all false
set_option maxRecDepth 100000
set_option maxHeartbeats 4000000
set_option exponentiation.threshold 20000
namespace DL
open PySem PySem.Spec PyProof.Rows L2 PLn

/-! ## spots: numbers at and about corners -/
def IsFr (N : Nat) (d : D) : Prop := ∃ x : Rat, d = fr x ∧ Bd N x
theorem IsFr.mono {M N : Nat} {d : D} (h : IsFr M d) (hm : M ≤ N) : IsFr N d := by
  obtain ⟨x, e, b⟩ := h
  exact ⟨x, e, b.mono hm⟩
theorem IsFr.of {N : Nat} {x : Rat} (h : Bd N x) : IsFr N (fr x) := ⟨x, rfl, h⟩
theorem isFr_lit {N : Nat} (p : Int) (q : Nat) (h0 : q ≠ 0) (h : p.natAbs.Coprime q) (b1 : p.natAbs < 2 ^ N) (b2 : q < 2 ^ N) : IsFr N (.tup [.int p, .int (q : Int)]) := ⟨⟨p, q, h0, h⟩, rfl, b1, b2⟩
theorem fr_lit (p : Int) (q : Nat) (h0 : q ≠ 0) (h : p.natAbs.Coprime q) : D.tup [.int p, .int (q : Int)] = fr ⟨p, q, h0, h⟩ := rfl
section
variable {P : Nat → Option FD} {Q : Sl × List Sl → Prop} {n tk pk i f ad sb ml : Nat} {st : List D}
theorem spots_run (hP : P i = some (fdSpots f tk ad sb ml)) (H : Drw P tk pk) (F : Frb P f) (ha : P ad = some (fdAdd f)) (hb : P sb = some (fdSub f)) (hm : P ml = some (fdMul f)) {ms : List D} (hms : ∀ d ∈ ms, IsFr 12 d) (hl : ms.length ≤ 20) (hs : St st)
    (q : ∀ st' ds, St st' → (∀ d ∈ ds, IsFr 40 d) → ds.length ≤ 200 → Q (.own ds, [.own st', .un])) : Post (callF P (n + 4) i [.own st, .val (.lst ms)]) Q := by
  rw [post_fn hP]
  simp [fdSpots]
  refine H.take hs (by decide) (by decide) fun st v hs v0 v1 => ?_
  simp
  refine H.take hs (by decide) (by decide) fun st w hs w0 w1 => ?_
  simp
  refine F.run (N := 12) (by decide) (by omega) (by omega) (by omega) ?_
  simp
  have b0 : Bd 12 (Rat.divInt (v - 2000) (1 + w)) := bd_divInt (by omega) (by omega) (by omega)
  generalize Rat.divInt (v - 2000) (1 + w) = x0 at b0 ⊢
  refine forL_inv (fun ds l => ∃ (fs : List D) (c3 : Sl), l = [.own st, .val (.lst ms), .own fs, c3, .un] ∧ (∀ d ∈ ds, IsFr 12 d) ∧ (∀ d ∈ fs, IsFr 40 d) ∧ fs.length + 4 * ds.length ≤ 6 + 4 * ms.length) ⟨_, _, rfl, hms, ?_, by simp⟩ (fun d ds l hh => ?_) (fun l hh => ?_)
  · intro d hd
    simp at hd
    rcases hd with rfl | rfl | rfl | rfl | rfl | rfl
    · exact isFr_lit 0 1 (by decide) (by decide) (by decide) (by decide)
    · exact isFr_lit 1 1 (by decide) (by decide) (by decide) (by decide)
    · exact isFr_lit (-1000000) 1 (by decide) (by decide) (by decide) (by decide)
    · exact isFr_lit 1000000 1 (by decide) (by decide) (by decide) (by decide)
    · exact isFr_lit 999999 10000 (by decide) (by decide) (by decide) (by decide)
    · exact .of (b0.mono (by omega))
  · obtain ⟨fs, c3, rfl, h1, h2, h3⟩ := hh
    obtain ⟨x, rfl, bx⟩ := h1 _ List.mem_cons_self
    have e1 : D.tup [.int 1, .int 100] = fr ⟨1, 100, by decide, by decide⟩ := rfl
    have e2 : D.tup [.int 1, .int 2] = fr ⟨1, 2, by decide, by decide⟩ := rfl
    have b1 : Bd 7 ⟨1, 100, by decide, by decide⟩ := ⟨by decide, by decide⟩
    have b2 : Bd 2 ⟨1, 2, by decide, by decide⟩ := ⟨by decide, by decide⟩
    have hl2 := h3
    rw [List.length_cons] at hl2
    simp [e1, e2]
    refine add_run ha F bx b1 (by decide) ?_
    simp [e1, e2]
    refine sub_run hb F bx b1 (by decide) ?_
    simp [e1, e2]
    refine add_run ha F bx b2 (by decide) ?_
    simp
    refine ⟨by omega, fun d hd => h1 d (List.mem_cons_of_mem _ hd), fun d hd => ?_, by omega⟩
    rcases hd with hd | rfl | rfl | rfl | rfl
    · exact h2 d hd
    · exact .of (bx.mono (by omega))
    · exact .of ((bd_add bx b1).mono (by omega))
    · exact .of ((bd_sub bx b1).mono (by omega))
    · exact .of ((bd_add bx b2).mono (by omega))
  · obtain ⟨fs, c3, rfl, h1, h2, h3⟩ := hh
    rw [List.length_nil] at h3
    simp
    have e2 : D.tup [.int 1, .int 2] = fr ⟨1, 2, by decide, by decide⟩ := rfl
    have b2 : Bd 2 ⟨1, 2, by decide, by decide⟩ := ⟨by decide, by decide⟩
    by_cases hz : ms.length = 0
    · have e0 : ms = [] := List.length_eq_zero_iff.mp hz
      subst e0
      simp
      refine ⟨by decide, ?_⟩
      have e3 : rgD 1 0 = [] := rfl
      rw [e3]
      refine compL_inv (fun ds acc l => ds = [] ∧ acc = [] ∧ l = [.own st, .val (.lst []), .own fs, c3, .un]) ⟨rfl, rfl, rfl⟩ (fun d ds acc l hh => by cases hh.1) (fun acc l hh => ?_)
      obtain ⟨_, rfl, rfl⟩ := hh
      simp
      exact ⟨by omega, q _ _ hs h2 (by simp at h3; omega)⟩
    refine ⟨rgOk_ok (by omega) (by omega) (by omega) (by omega), ?_⟩
    have hget := fun i d => @rgD_get 1 (ms.length : Int) i d
    have hlen := rgD_length 1 (ms.length : Int)
    generalize rgD 1 (ms.length : Int) = zs at hget hlen ⊢
    refine compL_map (fun l => l = [.own st, .val (.lst ms), .own fs, c3, .un]) (fun _ y => IsFr 40 y) rfl (by omega) (fun i d l hd hl' => ?_) (fun ys l e hy hl' => ?_)
    · subst hl'
      obtain ⟨rfl, hi⟩ := hget _ _ hd
      have g1 : atI ms ((1 : Int) + (i : Int) - 1) = some ms[i] := by
        rw [show (1 : Int) + (i : Int) - 1 = (i : Int) by omega, atI_nat', List.getElem?_eq_getElem (by omega)]
      have g2 : atI ms ((1 : Int) + (i : Int)) = some ms[i + 1] := by
        rw [show (1 : Int) + (i : Int) = ((i + 1 : Nat) : Int) by omega, atI_nat', List.getElem?_eq_getElem (by omega)]
      obtain ⟨x, ex, bx⟩ := hms ms[i] (List.getElem_mem _)
      obtain ⟨y, ey, by_⟩ := hms ms[i + 1] (List.getElem_mem _)
      rw [ex] at g1
      rw [ey] at g2
      simp [g1, g2, e2]
      refine add_run ha F bx by_ (by decide) ?_
      simp [e2]
      refine mul_run hm F (bd_add bx by_) b2 (by decide) ?_
      simp
      exact .of ((bd_mul (bd_add bx by_) b2).mono (by omega))
    · subst hl'
      simp
      refine ⟨by omega, q _ _ hs (fun d hd => ?_) (by simp; omega)⟩
      rcases List.mem_append.mp hd with z | z
      · exact h2 d z
      · obtain ⟨j, hj, rfl⟩ := List.mem_iff_getElem.mp z
        exact hy j _ (List.getElem?_eq_getElem hj)
end
end DL

set_option Elab.async false
set_option linter.all false
set_option maxRecDepth 100000
set_option maxHeartbeats 4000000
set_option exponentiation.threshold 20000
namespace DL
open PySem PySem.Spec PyProof.Rows L2 PLn

/-! ## easier laws -/
def fdStraight (add : Nat) : FD := ⟨2, 2, none, [.ret (.pack true [.pack true [.cst (.tup [(.int 0), (.int 1)]), .var 1], .pack true [.cst (.tup [(.int 1), (.int 1)]), .call add none [0, 1] [.var 0, .var 1]]])]⟩
def fdEasier (less da slp : Nat) : FD := ⟨2, 4, none, [.fer (.name 2) 0 [.comp (.prim .ix [.var 3, .cst (.int 0)]) (.name 3) 0 [.prim .add [.var 0, .var 1]] [] [3]] [.ite (.call less none [0, 1] [.call da none [0, 1] [.var 1, .var 2], .call da none [0, 1] [.var 0, .var 2]]) [.ret (.cst (.bl false))] []], .ite (.call less none [0, 1] [.call slp none [0, 1] [.var 0, .cst (.int 0)], .call slp none [0, 1] [.var 1, .cst (.int 0)]]) [.ret (.cst (.bl false))] [], .ret (.not (.call less none [0, 1] [.call slp none [0, 1] [.var 1, .prim .sub [.prim .len [.var 1], .cst (.int 2)]], .call slp none [0, 1] [.var 0, .prim .sub [.prim .len [.var 0], .cst (.int 2)]]]))]⟩
def fdIsDue : FD := ⟨2, 2, none, [.ret (.ite (.var 1) (.prim .iz [.var 0, .cst (.bl true)]) (.prim .iz [.var 0, .cst (.bl false)]))]⟩
def fdLEasier (less ld slp : Nat) : FD := ⟨2, 4, none, [.fer (.tup [.name 2, .name 3]) 0 [.prim .add [.var 0, .var 1]] [.ite (.call less none [0, 1] [.call ld none [0, 1] [.var 1, .var 2], .call ld none [0, 1] [.var 0, .var 2]]) [.ret (.cst (.bl false))] []], .ite (.call less none [0, 1] [.call slp none [0, 1] [.prim .ix [.var 0, .cst (.int 0)], .prim .ix [.var 0, .cst (.int 1)]], .call slp none [0, 1] [.prim .ix [.var 1, .cst (.int 0)], .prim .ix [.var 1, .cst (.int 1)]]]) [.ret (.cst (.bl false))] [], .ret (.not (.call less none [0, 1] [.call slp none [0, 1] [.prim .ix [.var 1, .prim .neg [.cst (.int 2)]], .prim .ix [.var 1, .prim .neg [.cst (.int 1)]]], .call slp none [0, 1] [.prim .ix [.var 0, .prim .neg [.cst (.int 2)]], .prim .ix [.var 0, .prim .neg [.cst (.int 1)]]]]))]⟩
def fdNear (tk pk add fra sub less slp : Nat) : FD := ⟨2, 13, some 0, [.par [4, 5] [.call tk (some 0) [0, 1] [.var 0, .prim .len [.var 1]], .call tk (some 0) [0, 1] [.var 0, .cst (.int 6)]], .set 2 (.call pk (some 0) [0, 1] [.var 0, .pack false [.pack true [.cst (.int 1), .cst (.int 12)], .pack true [.prim .neg [.cst (.int 1)], .cst (.int 12)], .pack true [.cst (.int 1), .cst (.int 2)], .pack true [.cst (.int 0), .cst (.int 1)]]]), .ite (.prim .lt [.var 5, .cst (.int 2)]) [.set 6 (.prim .add [.prim .add [.slc (.var 1) false true [.var 4], .pack true [.pack true [.prim .ix [.prim .ix [.var 1, .var 4], .cst (.int 0)], .call add none [0, 1] [.prim .ix [.prim .ix [.var 1, .var 4], .cst (.int 1)], .var 2]]]], .slc (.var 1) true false [.prim .add [.var 4, .cst (.int 1)]]])] [.ite (.prim .eq [.var 5, .cst (.int 2)]) [.set 9 (.pack true [.call add none [0, 1] [.prim .ix [.prim .ix [.var 1, .prim .neg [.cst (.int 1)]], .cst (.int 0)], .pack true [.cst (.int 1), .cst (.int 1)]], .call add none [0, 1] [.prim .ix [.prim .ix [.var 1, .prim .neg [.cst (.int 1)]], .cst (.int 1)], .call fra none [0, 1] [.prim .add [.cst (.int 1), .call tk (some 0) [0, 1] [.var 0, .cst (.int 40)]], .cst (.int 4)]]]), .set 6 (.prim .add [.var 1, .pack true [.var 9]])] [.ite (.prim .eq [.var 5, .cst (.int 3)]) [.set 10 (.pack true [.call sub none [0, 1] [.prim .ix [.prim .ix [.var 1, .cst (.int 0)], .cst (.int 0)], .pack true [.cst (.int 1), .cst (.int 1)]], .call sub none [0, 1] [.prim .ix [.prim .ix [.var 1, .cst (.int 0)], .cst (.int 1)], .call fra none [0, 1] [.prim .add [.cst (.int 1), .call tk (some 0) [0, 1] [.var 0, .cst (.int 40)]], .cst (.int 4)]]]), .set 6 (.prim .add [.pack true [.var 10], .var 1])] [.ite (.prim .eq [.var 5, .cst (.int 4)]) [.set 6 (.prim .tup [.comp (.pack true [.var 11, .call add none [0, 1] [.var 12, .var 2]]) (.tup [.name 11, .name 12]) 0 [.var 1] [] [11, 12]])] [.set 6 (.prim .add [.slc (.var 1) false true [.var 4], .slc (.var 1) true false [.prim .add [.var 4, .cst (.int 1)]]])]]]], .ite (.not (.chain .le .le (.cst (.int 2)) (.prim .len [.var 6]) (.cst (.int 8)))) [.ret (.cst .non)] [], .fer (.name 3) 2 [.cst (.int 1), .prim .len [.var 6]] [.ite (.or (.not (.call less none [0, 1] [.prim .ix [.prim .ix [.var 6, .prim .sub [.var 3, .cst (.int 1)]], .cst (.int 1)], .prim .ix [.prim .ix [.var 6, .var 3], .cst (.int 1)]])) (.and (.prim .gt [.var 3, .cst (.int 1)]) (.prim .eq [.call slp none [0, 1] [.prim .ix [.var 6, .prim .sub [.var 3, .cst (.int 2)]], .prim .ix [.var 6, .prim .sub [.var 3, .cst (.int 1)]]], .call slp none [0, 1] [.prim .ix [.var 6, .prim .sub [.var 3, .cst (.int 1)]], .prim .ix [.var 6, .var 3]]]))) [.ret (.cst .non)] []], .par [7, 8] [.prim .mx [.comp (.prim .mx [.prim .ix [.var 11, .cst (.int 1)], .prim .ix [.var 12, .cst (.int 1)]]) (.tup [.name 11, .name 12]) 0 [.var 6] [] [11, 12]], .prim .mx [.comp (.prim .mx [.prim .abs [.prim .ix [.var 11, .cst (.int 0)]], .prim .abs [.prim .ix [.var 12, .cst (.int 0)]]]) (.tup [.name 11, .name 12]) 0 [.var 6] [] [11, 12]]], .ret (.ite (.and (.prim .le [.var 7, .cst (.int 12)]) (.prim .le [.var 8, .cst (.int 1000)])) (.var 6) (.cst .non))]⟩
def fdPairTold (lez isd ez : Nat) : FD := ⟨2, 3, none, [.set 2 (.call lez none [0, 1] [.var 0, .var 1]), .ret (.and (.call isd none [0, 1] [.call ez none [0, 1] [.var 0, .var 1], .var 2]) (.call isd none [0, 1] [.call ez none [1, 0] [.var 1, .var 0], .var 2]))]⟩

/-- nowhere higher, by the corners and the end pieces -/
def Ezp (cs es : Cv) (p : Rat × Rat) : Prop := ∀ d e, At es p.1 d → At cs p.1 e → ¬ d < e
def Ez (cs es : Cv) : Prop := (∀ p ∈ cs ++ es, Ezp cs es p) ∧ ¬ slope cs 0 < slope es 0 ∧ ¬ slope es (es.length - 2) < slope cs (cs.length - 2)
theorem ez_self {cs : Cv} (r : Rise cs) : Ez cs cs := by
  refine ⟨fun p _ d e h1 h2 => ?_, Rat.lt_irrefl, Rat.lt_irrefl⟩
  rw [At.uniq r h1 h2]; exact Rat.lt_irrefl
def fstD : D → D
  | .tup (a :: _) => a
  | d => d
theorem atI_neg {α : Type} {xs : List α} {k : Nat} (h0 : 0 < k) (h : k ≤ xs.length) : atI xs (-(k : Int)) = xs[xs.length - k]? := by
  unfold atI ixN
  rw [if_neg (by omega), if_pos (by omega)]
  have : (-(k : Int) + (xs.length : Int)).toNat = xs.length - k := by omega
  simp [this]
theorem crv_neg {cs : Cv} {k : Nat} (h0 : 0 < k) (h : k ≤ cs.length) : atI (cs.map cor) (-(k : Int)) = some (.tup [fr (px cs (cs.length - k)), fr (py cs (cs.length - k))]) := by
  rw [atI_neg h0 (by rw [List.length_map]; exact h), List.length_map]
  have := crv_at (cs := cs) (k := cs.length - k) (by omega)
  rw [atI_nat'] at this
  exact this
theorem crv_m1 {cs : Cv} (h : 1 ≤ cs.length) : atI (cs.map cor) (-1) = some (.tup [fr (px cs (cs.length - 1)), fr (py cs (cs.length - 1))]) := crv_neg (k := 1) (by decide) h
theorem crv_m2 {cs : Cv} (h : 2 ≤ cs.length) : atI (cs.map cor) (-2) = some (.tup [fr (px cs (cs.length - 2)), fr (py cs (cs.length - 2))]) := crv_neg (k := 2) (by decide) h
theorem crv_0 {cs : Cv} (h : 0 < cs.length) : atI (cs.map cor) 0 = some (.tup [fr (px cs 0), fr (py cs 0)]) := crv_at h
theorem crv_1 {cs : Cv} (h : 1 < cs.length) : atI (cs.map cor) 1 = some (.tup [fr (px cs 1), fr (py cs 1)]) := crv_at h
section
variable {P : Nat → Option FD} {Q : Sl × List Sl → Prop} {n N i : Nat} {cs es : Cv}
structure EasyP (P : Nat → Option FD) (i : Nat) : Prop where
  ex : ∃ f le da sl dv sb, P i = some (fdEasier le da sl) ∧ P le = some fdLess ∧ DropP P da ∧ P sl = some (fdSlopeOf dv sb) ∧ P dv = some (fdDiv f) ∧ P sb = some (fdSub f) ∧ Frb P f
theorem easier_run (H : EasyP P i) (r : Rise cs) (r2 : Rise es) (b : Bds N cs) (b2 : Bds N es) (hc : cs.length ≤ 1000) (hc2 : es.length ≤ 1000) (hN : N ≤ 200) (q : ∀ o : Bool, (o = true ↔ Ez cs es) → Q (.val (.bl o), [.un, .un])) :
    Post (callF P (n + 7) i [.val (crv cs), .val (crv es)]) Q := by
  obtain ⟨f, le, da, sl, dv, sb, h1, h2, h3, h4, h5, h6, F⟩ := H.ex
  have t1 := r.two
  have t2 := r2.two
  rw [post_fn h1]
  have ec : ∀ cs : Cv, crv cs = .tup (cs.map cor) := fun _ => rfl
  simp [fdEasier, ec]
  refine ⟨by omega, ?_⟩
  rw [← List.map_append]
  refine compL_mapf (fun l => l = [.val (.tup (cs.map cor)), .val (.tup (es.map cor)), .un, .un]) fstD rfl (by rw [List.length_map, List.length_append]; omega) (fun d l hd hl => ?_) (fun l hl => ?_)
  · subst hl
    obtain ⟨p, hp, rfl⟩ := mem_cor hd
    simp [fstD]
  subst hl
  simp only [← ec]
  have e1 : ((cs ++ es).map cor).map fstD = (cs ++ es).map fun p => fr p.1 := by rw [List.map_map]; rfl
  simp only [items_l, On_some, e1]
  refine forL_inv (fun ds l => ∃ pre post c, pre ++ post = cs ++ es ∧ ds = post.map (fun p => fr p.1) ∧ (∀ p ∈ pre, Ezp cs es p) ∧ l = [.val (crv cs), .val (crv es), c, .un]) ⟨[], cs ++ es, _, rfl, rfl, (fun _ h => by cases h), rfl⟩ (fun d ds l hh => ?_) (fun l hh => ?_)
  · obtain ⟨pre, post, c, hpp, hds, hpre, rfl⟩ := hh
    cases post with
    | nil => cases hds
    | cons p post =>
      rw [List.map_cons] at hds
      injection hds with hd1 hd2
      subst hd1 hd2
      have hm : p ∈ cs ++ es := by rw [← hpp]; exact List.mem_append_right _ List.mem_cons_self
      have bp : Bd N p.1 := by
        rcases List.mem_append.mp hm with z | z
        · exact (b p z).1
        · exact (b2 p z).1
      simp
      refine dropAt_run h3 r2 b2 bp hc2 (by omega) fun d hd => ?_
      simp
      refine dropAt_run h3 r b bp hc (by omega) fun e he => ?_
      simp
      refine less_run h2 (b2.at_ r2 hd bp) (b.at_ r he bp) (by omega) ?_
      simp
      (first | refine If.hh (fun hlt => ?_) (fun hlt => ?_) | refine If.ha (fun hlt => ?_) (fun hlt => ?_) | refine If.ah (fun hlt => ?_) (fun hlt => ?_) | refine If.aa (fun hlt => ?_) (fun hlt => ?_))
      · have hlt : d < e := by simpa using hlt
        simp
        refine q false ⟨(fun z => by cases z), fun z => ?_⟩
        exact absurd hlt (z.1 p hm d e hd he)
      · have hlt : ¬ d < e := by simpa using hlt
        simp
        refine ⟨pre ++ [p], post, by rw [List.append_assoc]; exact hpp, rfl, fun x y hxy => ?_⟩
        rcases List.mem_append.mp (show (x, y) ∈ pre ++ [p] by simpa using hxy) with z | z
        · exact hpre _ z
        · rw [List.mem_singleton.mp z]
          intro d' e' g1 g2
          rw [At.uniq r2 g1 hd, At.uniq r g2 he]; exact hlt
  · obtain ⟨pre, post, c, hpp, hds, hpre, rfl⟩ := hh
    have e0 : post = [] := by simpa using hds.symm
    subst e0
    rw [List.append_nil] at hpp
    subst hpp
    simp
    refine slopeOf_run (k := 0) h4 h5 h6 F r b (by omega) (by omega) ?_
    simp
    refine slopeOf_run (k := 0) h4 h5 h6 F r2 b2 (by omega) (by omega) ?_
    simp
    refine less_run h2 (b.slope r (k := 0) (by omega)) (b2.slope r2 (k := 0) (by omega)) (by omega) ?_
    simp
    (first | refine If.hh (fun hs => ?_) (fun hs => ?_) | refine If.ha (fun hs => ?_) (fun hs => ?_) | refine If.ah (fun hs => ?_) (fun hs => ?_) | refine If.aa (fun hs => ?_) (fun hs => ?_))
    · have hs : slope cs 0 < slope es 0 := by simpa using hs
      simp
      exact q false ⟨(fun z => by cases z), fun z => absurd hs z.2.1⟩
    · have hs : ¬ slope cs 0 < slope es 0 := by simpa using hs
      simp
      simp only [ec]
      simp
      simp only [← ec]
      have c1 : (es.length : Int) - 2 = ((es.length - 2 : Nat) : Int) := by omega
      have c2 : (cs.length : Int) - 2 = ((cs.length - 2 : Nat) : Int) := by omega
      rw [c1]
      refine slopeOf_run (k := es.length - 2) h4 h5 h6 F r2 b2 (by omega) (by omega) ?_
      simp only [ec]
      simp
      simp only [← ec]
      rw [c2]
      refine slopeOf_run (k := cs.length - 2) h4 h5 h6 F r b (by omega) (by omega) ?_
      simp
      refine less_run h2 (b2.slope r2 (k := es.length - 2) (by omega)) (b.slope r (k := cs.length - 2) (by omega)) (by omega) ?_
      simp
      refine q _ ⟨fun z => ⟨hpre, hs, by simpa using z⟩, fun z => by simpa using z.2.2⟩
structure LEasyP (P : Nat → Option FD) (i : Nat) : Prop where
  ex : ∃ f le ld sl dv sb, P i = some (fdLEasier le ld sl) ∧ P le = some fdLess ∧ LDropP P ld ∧ P sl = some (fdLSlope dv sb) ∧ P dv = some (fdDiv f) ∧ P sb = some (fdSub f) ∧ Frb P f
theorem leasier_run (H : LEasyP P i) (r : Rise cs) (r2 : Rise es) (b : Bds N cs) (b2 : Bds N es) (hc : cs.length ≤ 1000) (hc2 : es.length ≤ 1000) (hN : N ≤ 200) (q : ∀ o : Bool, (o = true ↔ Ez cs es) → Q (.val (.bl o), [.un, .un])) :
    Post (callF P (n + 6) i [.val (crv cs), .val (crv es)]) Q := by
  obtain ⟨f, le, da, sl, dv, sb, h1, h2, h3, h4, h5, h6, F⟩ := H.ex
  have t1 := r.two
  have t2 := r2.two
  rw [post_fn h1]
  have ec : ∀ cs : Cv, crv cs = .tup (cs.map cor) := fun _ => rfl
  simp [fdLEasier, ec]
  refine ⟨by omega, ?_⟩
  rw [← List.map_append]
  simp only [← ec]
  refine forL_inv (fun ds l => ∃ pre post c c2, pre ++ post = cs ++ es ∧ ds = post.map cor ∧ (∀ p ∈ pre, Ezp cs es p) ∧ l = [.val (crv cs), .val (crv es), c, c2]) ⟨[], cs ++ es, _, _, rfl, rfl, (fun _ h => by cases h), rfl⟩ (fun d ds l hh => ?_) (fun l hh => ?_)
  · obtain ⟨pre, post, c, c2, hpp, hds, hpre, rfl⟩ := hh
    cases post with
    | nil => cases hds
    | cons p post =>
      rw [List.map_cons] at hds
      injection hds with hd1 hd2
      subst hd1 hd2
      have hm : p ∈ cs ++ es := by rw [← hpp]; exact List.mem_append_right _ List.mem_cons_self
      have bp : Bd N p.1 := by
        rcases List.mem_append.mp hm with z | z
        · exact (b p z).1
        · exact (b2 p z).1
      simp
      refine ldrop_run h3 r2 b2 bp hc2 (by omega) fun d hd => ?_
      simp
      refine ldrop_run h3 r b bp hc (by omega) fun e he => ?_
      simp
      refine less_run h2 (b2.at_ r2 hd bp) (b.at_ r he bp) (by omega) ?_
      simp
      (first | refine If.hh (fun hlt => ?_) (fun hlt => ?_) | refine If.ha (fun hlt => ?_) (fun hlt => ?_) | refine If.ah (fun hlt => ?_) (fun hlt => ?_) | refine If.aa (fun hlt => ?_) (fun hlt => ?_))
      · have hlt : d < e := by simpa using hlt
        simp
        refine q false ⟨(fun z => by cases z), fun z => ?_⟩
        exact absurd hlt (z.1 p hm d e hd he)
      · have hlt : ¬ d < e := by simpa using hlt
        simp
        refine ⟨pre ++ [p], post, by rw [List.append_assoc]; exact hpp, rfl, fun x y hxy => ?_⟩
        rcases List.mem_append.mp (show (x, y) ∈ pre ++ [p] by simpa using hxy) with z | z
        · exact hpre _ z
        · rw [List.mem_singleton.mp z]
          intro d' e' g1 g2
          rw [At.uniq r2 g1 hd, At.uniq r g2 he]; exact hlt
  · obtain ⟨pre, post, c, c2, hpp, hds, hpre, rfl⟩ := hh
    have e0 : post = [] := by simpa using hds.symm
    subst e0
    rw [List.append_nil] at hpp
    subst hpp
    simp only [ec]
    simp [crv_0 (show 0 < cs.length by omega), crv_1 (show 1 < cs.length by omega)]
    refine lslope_run (k := 0) h4 h5 h6 F r b (by omega) (by omega) ?_
    simp [crv_0 (show 0 < es.length by omega), crv_1 (show 1 < es.length by omega)]
    refine lslope_run (k := 0) h4 h5 h6 F r2 b2 (by omega) (by omega) ?_
    simp
    refine less_run h2 (b.slope r (k := 0) (by omega)) (b2.slope r2 (k := 0) (by omega)) (by omega) ?_
    simp
    (first | refine If.hh (fun hs => ?_) (fun hs => ?_) | refine If.ha (fun hs => ?_) (fun hs => ?_) | refine If.ah (fun hs => ?_) (fun hs => ?_) | refine If.aa (fun hs => ?_) (fun hs => ?_))
    · have hs : slope cs 0 < slope es 0 := by simpa using hs
      simp
      exact q false ⟨(fun z => by cases z), fun z => absurd hs z.2.1⟩
    · have hs : ¬ slope cs 0 < slope es 0 := by simpa using hs
      simp [crv_m1 (show 1 ≤ es.length by omega), crv_m2 (show 2 ≤ es.length by omega)]
      have k1 : es.length - 2 + 1 = es.length - 1 := by omega
      have k2 : cs.length - 2 + 1 = cs.length - 1 := by omega
      rw [← k1]
      refine lslope_run (k := es.length - 2) h4 h5 h6 F r2 b2 (by omega) (by omega) ?_
      simp [crv_m1 (show 1 ≤ cs.length by omega), crv_m2 (show 2 ≤ cs.length by omega)]
      rw [← k2]
      refine lslope_run (k := cs.length - 2) h4 h5 h6 F r b (by omega) (by omega) ?_
      simp
      refine less_run h2 (b2.slope r2 (k := es.length - 2) (by omega)) (b.slope r (k := cs.length - 2) (by omega)) (by omega) ?_
      simp
      refine q _ ⟨fun z => ⟨hpre, hs, by simpa using z⟩, fun z => by simpa using z.2.2⟩
theorem isDue_run (hP : P i = some fdIsDue) {b : Bool} (q : Q (.val (.bl true), [.un, .un])) : Post (callF P (n + 1) i [.val (.bl b), .val (.bl b)]) Q := by
  rw [post_fn hP]
  cases b <;> (simp [fdIsDue]; exact q)
theorem pairTold_run {lez isd ez : Nat} (hP : P i = some (fdPairTold lez isd ez)) (H1 : LEasyP P lez) (H2 : P isd = some fdIsDue) (H3 : EasyP P ez) (r : Rise cs) (r2 : Rise es) (b : Bds N cs) (b2 : Bds N es) (hc : cs.length ≤ 1000) (hc2 : es.length ≤ 1000) (hN : N ≤ 200) (q : Q (.val (.bl true), [.un, .un])) :
    Post (callF P (n + 8) i [.val (crv cs), .val (crv es)]) Q := by
  rw [post_fn hP]
  simp [fdPairTold]
  refine leasier_run H1 r r2 b b2 hc hc2 hN fun o ho => ?_
  simp
  refine easier_run H3 r r2 b b2 hc hc2 hN fun o' ho' => ?_
  have e : o' = o := Bool.eq_iff_iff.mpr (ho'.trans ho.symm)
  subst e
  simp
  refine isDue_run H2 ?_
  simp
  refine easier_run H3 r r2 b b2 hc hc2 hN fun o2 ho2 => ?_
  have e : o2 = o' := Bool.eq_iff_iff.mpr (ho2.trans ho.symm)
  subst e
  simp
  refine isDue_run H2 ?_
  simp
  exact q
theorem straight_run {ad f : Nat} {s c : Rat} {M N : Nat} (hP : P i = some (fdStraight ad)) (ha : P ad = some (fdAdd f)) (F : Frb P f) (bs : Bd M s) (bc : Bd N c) (hN : M + N + 1 ≤ 4000) (q : Q (.val (crv [(0, c), (1, s + c)]), [.un, .un])) :
    Post (callF P (n + 4) i [.val (fr s), .val (fr c)]) Q := by
  rw [post_fn hP]
  simp [fdStraight]
  refine add_run ha F bs bc hN ?_
  simp
  exact q
end
end DL

set_option Elab.async false
set_option linter.all false
set_option maxRecDepth 100000
set_option maxHeartbeats 4000000
namespace DL
open PySem PySem.Spec PyProof.Rows L2

/-! ## rules for methods, filters, sorted, ranges as lists -/
section
variable {Γ : Gam} {l : Loc}
@[simp] theorem p_mth {m : Mt} {i : Nat} {es : List E} {Q : Sl × Loc → Prop} : Post (evX Γ (.mth m i es) l) Q ↔ On (ownAt l i) fun _ => Post (evDs Γ es l) fun r => On (ownAt r.2 i) fun ds => On (mthD m ds r.1) fun z => Q (.val z.1, r.2.set i (.own z.2)) := by
  rw [evX.eq_def]; dsimp only
  cases ownAt l i with
  | none => exact Iff.rfl
  | some ds0 =>
    dsimp only [On]
    refine Iff.trans Post.bind ?_
    have : ∀ r : List D × Loc, Post (match ownAt r.2 i with
      | some ds => (match mthD m ds r.1 with
        | some z => R.ok (Sl.val z.1, r.2.set i (.own z.2))
        | none => .bad)
      | none => .bad) Q ↔ On (ownAt r.2 i) fun ds => On (mthD m ds r.1) fun z => Q (.val z.1, r.2.set i (.own z.2)) := fun r => by
      cases ownAt r.2 i with
      | none => exact Iff.rfl
      | some ds => dsimp only [On]; cases mthD m ds r.1 <;> exact Iff.rfl
    exact ⟨fun h => h.imp fun a q => (this a).mp q, fun h => h.imp fun a q => (this a).mpr q⟩
@[simp] theorem p_As_mth {m : Mt} {i : Nat} {fs : List E} {es : List E} {Q : List A × Loc → Prop} : Post (evAs Γ (.mth m i fs :: es) l) Q ↔ Post (evX Γ (.mth m i fs) l) fun r => Post (evAs Γ es r.2) fun r2 => Q (.dat r.1.d :: r2.1, r2.2) := p_As_cons rfl
/-- a filter, then a map -/
theorem compL_fm {α : Type} {bd : D → Loc → Option Loc} {ts : Loc → R (Bool × Loc)} {el : Loc → R (Sl × Loc)} {ws : List Nat} {Q : List D × Loc → Prop} (as : List α) (e : α → D) (t : α → Bool) (f : α → D) (I : Loc → Prop) {xs : List D} (hx : xs = as.map e) (h : I l) (hl : as.length ≤ 16777216)
    (step : ∀ a l, a ∈ as → I l → On (bd (e a) (wipeD l ws)) fun l1 => Post (ts l1) fun r => r.1 = t a ∧ (t a = true → Post (el r.2) fun r2 => r2.1.d = f a ∧ I (wipeD r2.2 ws)) ∧ (t a = false → I (wipeD r.2 ws)))
    (done : ∀ l, I l → Q ((as.filter t).map f, l)) : Post (compL bd ts el ws xs [] l) Q := by
  subst hx
  refine compL_inv (fun ds acc l => ∃ i, ds = (as.drop i).map e ∧ i ≤ as.length ∧ acc = ((as.take i).filter t).map f ∧ I l) ⟨0, rfl, Nat.zero_le _, rfl, h⟩ (fun d ds acc l hh => ?_) (fun acc l hh => ?_)
  · obtain ⟨i, e1, hi, ea, hI⟩ := hh
    have lt : i < as.length := by
      rcases Nat.lt_or_ge i as.length with q | q
      · exact q
      · rw [List.drop_of_length_le q] at e1; cases e1
    rw [List.drop_eq_getElem_cons lt, List.map_cons] at e1
    injection e1 with e1 e2
    subst e1
    have s := step as[i] l (List.getElem_mem _) hI
    cases eb : bd (e as[i]) (wipeD l ws) with
    | none => rw [eb] at s; exact s
    | some l1 =>
      rw [eb] at s
      refine Post.imp s fun r q => ?_
      obtain ⟨q1, q2, q3⟩ := q
      rw [q1]
      have tk : as.take (i + 1) = as.take i ++ [as[i]] := by rw [List.take_succ, List.getElem?_eq_getElem lt]; rfl
      cases ht : t as[i] with
      | true =>
        rw [If_tH]
        refine Post.imp (q2 ht) fun r2 p => ⟨?_, i + 1, e2, lt, ?_, p.2⟩
        · rw [ea, List.length_map]
          have := List.length_filter_le t (as.take i)
          rw [List.length_take] at this
          omega
        · rw [tk, List.filter_append, List.map_append, ← ea, p.1]
          simp [ht]
      | false =>
        rw [If_fA]
        refine ⟨i + 1, e2, lt, ?_, q3 ht⟩
        rw [tk, List.filter_append, List.map_append, ← ea]
        simp [ht]
  · obtain ⟨i, e1, hi, ea, hI⟩ := hh
    have : i = as.length := by
      have := congrArg List.length e1
      rw [List.length_map, List.length_drop, List.length_nil] at this
      omega
    subst this
    rw [List.take_length] at ea
    rw [ea]
    exact done l hI
/-- a map alone -/
theorem compL_mp {α : Type} {bd : D → Loc → Option Loc} {el : Loc → R (Sl × Loc)} {ws : List Nat} {Q : List D × Loc → Prop} (as : List α) (e : α → D) (f : α → D) (I : Loc → Prop) {xs : List D} (hx : xs = as.map e) (h : I l) (hl : as.length ≤ 16777216)
    (step : ∀ a l, a ∈ as → I l → On (bd (e a) (wipeD l ws)) fun l1 => Post (el l1) fun r2 => r2.1.d = f a ∧ I (wipeD r2.2 ws))
    (done : ∀ l, I l → Q (as.map f, l)) : Post (compL bd (evTs Γ []) el ws xs [] l) Q := by
  refine compL_fm as e (fun _ => true) f I hx h hl (fun a l ha hI => ?_) (fun l hI => ?_)
  case refine_2 =>
    have e0 : as.filter (fun _ => true) = as := List.filter_eq_self.mpr fun _ _ => rfl
    rw [e0]; exact done l hI
  have s := step a l ha hI
  cases eb : bd (e a) (wipeD l ws) with
  | none => rw [eb] at s; exact s
  | some l1 =>
    rw [eb] at s
    show Post (evTs Γ [] l1) _
    rw [p_Ts_nil]
    exact ⟨rfl, fun _ => s, fun z => by cases z⟩
end
section
variable {Q : Sl → Prop} {Q2 : D × List D → Prop}
@[simp] theorem o_rgl1 (b : Int) : On (primD .rgl [.int b]) Q ↔ rgOk 0 b = true ∧ Q (.own (rgD 0 b)) := On_ite
@[simp] theorem o_rgl2 (a b : Int) : On (primD .rgl [.int a, .int b]) Q ↔ rgOk a b = true ∧ Q (.own (rgD a b)) := On_ite
@[simp] theorem o_rgt1 (b : Int) : On (primD .rgt [.int b]) Q ↔ rgOk 0 b = true ∧ Q (.val (.tup (rgD 0 b))) := On_ite
@[simp] theorem o_srtL (xs : List D) : On (primD .srt [.lst xs]) Q ↔ srtOk xs = true ∧ Q (.own (srtD xs)) := On_ite
@[simp] theorem o_srtT (xs : List D) : On (primD .srt [.tup xs]) Q ↔ srtOk xs = true ∧ Q (.own (srtD xs)) := On_ite
@[simp] theorem o_revT (xs : List D) : primD .rev [.tup xs] = some (.val (.tup xs.reverse)) := rfl
@[simp] theorem o_revL (xs : List D) : primD .rev [.lst xs] = some (.own xs.reverse) := rfl
@[simp] theorem o_inL (d : D) (xs : List D) : On (primD .isin [d, .lst xs]) Q ↔ (flatD d && xs.all flatD || okEq d && okEq (.lst xs)) = true ∧ Q (.val (.bl (xs.any fun e => eqD e d))) := On_ite
@[simp] theorem o_ninL (d : D) (xs : List D) : On (primD .notin [d, .lst xs]) Q ↔ (flatD d && xs.all flatD || okEq d && okEq (.lst xs)) = true ∧ Q (.val (.bl (!xs.any fun e => eqD e d))) := On_ite
@[simp] theorem o_mulL (xs : List D) (k : Int) : On (primD .mul [.lst xs, .int k]) Q ↔ (decide (-(2 ^ 62) ≤ k ∧ k < 2 ^ 62) && decide (xs.length * k.toNat ≤ 16777216)) = true ∧ Q (.own (List.replicate k.toNat xs).flatten) := On_ite
@[simp] theorem m_rev (ds : List D) : mthD .rev ds [] = some (.non, ds.reverse) := rfl
@[simp] theorem m_ins (ds : List D) (j : Int) (d : D) : On (mthD .ins ds [.int j, d]) Q2 ↔ (0 ≤ j ∧ j < 2 ^ 62 ∧ ds.length < 16777216) ∧ Q2 (.non, ds.take j.toNat ++ [d] ++ ds.drop j.toNat) := On_ite
theorem m_popAt {ds : List D} {k : Nat} (h : k < ds.length) (q : Q2 (ds[k], ds.eraseIdx k)) : On (mthD .popAt ds [.int (k : Int)]) Q2 := by
  unfold mthD
  dsimp only
  have e : ixN ds.length (k : Int) = some k := by
    unfold ixN
    rw [if_pos (by omega), if_pos (by omega), Int.toNat_natCast]
  rw [e]
  dsimp only
  rw [List.getElem?_eq_getElem h]
  exact q
theorem m_pop {ds : List D} {es : List D} {d : D} (h : ds = es ++ [d]) (q : Q2 (d, es)) : On (mthD .pop ds []) Q2 := by
  subst h
  unfold mthD
  dsimp only
  have e : (es ++ [d])[(es ++ [d]).length - 1]? = some d := by simp
  rw [e]
  dsimp only
  rw [List.dropLast_concat]
  exact q
end
end DL

set_option Elab.async false
set_option linter.all false
set_option maxRecDepth 100000
set_option maxHeartbeats 4000000
set_option exponentiation.threshold 20000
namespace DL
open PySem PySem.Spec PyProof.Rows L2 PLn

/-! ## drawn numbers: a list of three numbers ahead of the script's -/
def fdPool : FD := ⟨1, 1, none, [.ret (.prim .add [.pack false [.cst (.int 0), .cst (.int 7), .cst (.int 3)], .prim .lst [.var 0]])]⟩
def fdDrawP : FD := ⟨2, 5, some 0, [.ite (.and (.prim .eq [.prim .ix [.var 0, .cst (.int 0)], .cst (.int 0)]) (.prim .lt [.prim .ix [.var 0, .cst (.int 2)], .prim .len [.var 0]])) [.set 3 (.prim .ix [.var 0, .prim .ix [.var 0, .cst (.int 2)]]), .setix 0 (.cst (.int 2)) (.prim .add [.prim .ix [.var 0, .cst (.int 2)], .cst (.int 1)]), .setix 0 (.cst (.int 1)) (.prim .mod [.prim .int [.prim .add [.prim .mul [.prim .ix [.var 0, .cst (.int 1)], .cst (.int 31)], .var 3]], .cst (.int 2147483647)]), .ite (.prim .ge [.prim .abs [.var 3], .prim .pow [.cst (.int 10), .cst (.int 18)]]) [.setix 0 (.cst (.int 0)) (.prim .abs [.var 3])] []] [], .ite (.prim .gt [.prim .ix [.var 0, .cst (.int 0)], .cst (.int 0)]) [.set 4 (.prim .mod [.prim .int [.prim .ix [.var 0, .cst (.int 0)]], .var 1]), .setix 0 (.cst (.int 0)) (.prim .fdiv [.prim .ix [.var 0, .cst (.int 0)], .var 1]), .retv 4] [], .setix 0 (.cst (.int 1)) (.prim .mod [.prim .int [.prim .add [.prim .mul [.prim .ix [.var 0, .cst (.int 1)], .cst (.int 48271)], .cst (.int 12345)]], .cst (.int 2147483647)]), .set 2 (.prim .mod [.prim .int [.prim .add [.prim .add [.prim .mul [.prim .ix [.var 0, .cst (.int 1)], .cst (.int 69621)], .prim .fdiv [.prim .ix [.var 0, .cst (.int 1)], .cst (.int 65536)]], .cst (.int 17)]], .cst (.int 2147483629)]), .ret (.prim .mod [.prim .int [.prim .fdiv [.var 2, .cst (.int 16)]], .var 1])]⟩
def fdShufP (dr : Nat) : FD := ⟨2, 4, some 0, [.set 2 (.prim .lst [.var 1]), .ret (.comp (.mth .popAt 2 [.call dr (some 0) [0, 1] [.var 0, .prim .len [.var 2]]]) (.name 3) 1 [.prim .len [.var 2]] [] [3])]⟩
def fdSameP (sm : Nat) : FD := ⟨2, 3, none, [.ite (.prim (.ist 3) [.var 1]) [.ite (.or (.not (.prim (.ist 3) [.var 0])) (.prim .ne [.prim .len [.var 0], .prim .len [.var 1]])) [.ret (.cst (.bl false))] [], .ret (.prim .eq [.comp (.var 2) (.name 2) 1 [.prim .len [.var 1]] [.not (.call sm none [0, 1] [.prim .ix [.var 0, .var 2], .prim .ix [.var 1, .var 2]])] [2], .pack false []])] [], .ite (.prim (.ist 2) [.var 1]) [.ret (.and (.prim (.ist 2) [.var 0]) (.prim .eq [.var 0, .var 1]))] [], .ite (.prim .iz [.var 1, .cst .non]) [.ret (.prim .iz [.var 0, .cst .non])] [], .ret (.and (.prim (.ist 0) [.var 0]) (.and (.prim .eq [.prim (.ist 1) [.var 0], .prim (.ist 1) [.var 1]]) (.prim .eq [.var 0, .var 1])))]⟩
def fdLFracP : FD := ⟨2, 6, none, [.par [4, 5] [.prim .abs [.var 0], .prim .abs [.var 1]], .fer (.name 2) 1 [.cst (.int 20000)] [.ite (.prim .eq [.var 5, .cst (.int 0)]) [.brk] [], .par [4, 5] [.var 5, .prim .mod [.prim .int [.var 4], .var 5]]], .set 3 (.ite (.prim .gt [.var 1, .cst (.int 0)]) (.cst (.int 1)) (.prim .neg [.cst (.int 1)])), .ret (.pack true [.prim .fdiv [.prim .mul [.var 3, .var 0], .prim .mx [.cst (.int 1), .var 4]], .prim .fdiv [.prim .abs [.var 1], .prim .mx [.cst (.int 1), .var 4]]])]⟩
def fdPickP (dr : Nat) : FD := ⟨2, 2, some 0, [.ret (.prim .ix [.var 1, .call dr (some 0) [0, 1] [.var 0, .prim .len [.var 1]]])]⟩
/-- a pool -/
def StP (ds : List D) : Prop := ∃ (a b : Int) (c : Nat) (ns : List Int), 0 ≤ a ∧ 0 ≤ b ∧ b < 2147483647 ∧ 3 ≤ c ∧ ns.length ≤ 63 ∧ ds = .int a :: .int b :: .int c :: ns.map D.int
theorem cons_erase {α : Type} : ∀ {xs : List α} {k : Nat} (h : k < xs.length), (xs[k] :: xs.eraseIdx k).Perm xs
  | x :: xs, 0, _ => List.Perm.refl _
  | x :: xs, k + 1, h => by
    have ih := cons_erase (xs := xs) (k := k) (by simpa using h)
    rw [List.eraseIdx_cons_succ, List.getElem_cons_succ]
    exact (List.Perm.swap _ _ _).trans (List.Perm.cons _ ih)
section
variable {P : Nat → Option FD} {Q : Sl × List Sl → Prop} {n : Nat}
theorem pool_run {i : Nat} (hP : P i = some fdPool) {ns : List Int} (hn : ns.length ≤ 63) (q : ∀ st, StP st → Q (.own st, [.un])) : Post (callF P (n + 1) i [.val (.lst (ns.map D.int))]) Q := by
  rw [post_fn hP]
  simp [fdPool]
  exact ⟨by omega, q _ ⟨0, 7, 3, ns, by decide, by decide, by decide, by decide, hn, rfl⟩⟩
theorem drawP_tail {a b m : Int} {c : Nat} {ns : List Int} {s2 s3 : Sl} (ha : 0 ≤ a) (hb : 0 ≤ b) (hb2 : b < 2147483647) (hc : 3 ≤ c) (hn : ns.length ≤ 63) (hm : 0 < m) (hm2 : m < 2 ^ 64) (q : ∀ st' v, StP st' → 0 ≤ v → v < m → Q (.val (.int v), [.own st', .un])) :
    Post (exB (callF P n) (fdDrawP.body.drop 1) [.own (.int a :: .int b :: .int c :: ns.map D.int), .val (.int m), s2, s3, .un]) (endQ 2 (some 0) Q) := by
  simp [fdDrawP]
  have m0 : m ≠ 0 := by omega
  (first | refine If.hh (fun h => ?_) (fun h => ?_) | refine If.ha (fun h => ?_) (fun h => ?_) | refine If.ah (fun h => ?_) (fun h => ?_) | refine If.aa (fun h => ?_) (fun h => ?_))
  · simp [m0]
    refine ⟨log_small (by omega), ?_⟩
    exact q _ _ ⟨_, b, c, ns, Int.fdiv_nonneg ha (by omega), hb, hb2, hc, hn, rfl⟩ (fmod_pos _ _ hm).1 (fmod_pos _ _ hm).2
  · have h : a = 0 := by have h : a ≤ 0 := by simpa using h
                         omega
    subst h
    simp [m0]
    have e1 := fmod_pos (b * 48271 + 12345) 2147483647 (by decide)
    generalize (b * 48271 + 12345).fmod 2147483647 = b' at e1
    refine ⟨mulOk_r (by decide) (by decide), mulOk_r (by decide) (by decide), by decide +kernel, by decide +kernel, q _ _ ⟨0, b', c, ns, by decide, e1.1, e1.2, hc, hn, rfl⟩ (fmod_pos _ _ hm).1 (fmod_pos _ _ hm).2⟩
theorem drawP_run {i : Nat} (hP : P i = some fdDrawP) {st : List D} {m : Int} (hs : StP st) (hm : 0 < m) (hm2 : m < 2 ^ 64) (q : ∀ st' v, StP st' → 0 ≤ v → v < m → Q (.val (.int v), [.own st', .un])) : Post (callF P (n + 1) i [.own st, .val (.int m)]) Q := by
  obtain ⟨a, b, c, ns, ha, hb, hb2, hc, hn, rfl⟩ := hs
  rw [post_fn hP]
  simp [fdDrawP]
  have tail0 : ∀ (a b : Int) (c : Nat) (s3 : Sl), 0 ≤ a → 0 ≤ b → b < 2147483647 → 3 ≤ c → _ := fun a b c s3 h1 h2 h3 h4 => drawP_tail (P := P) (n := n) (Q := Q) (a := a) (b := b) (c := c) (ns := ns) (s2 := .un) (s3 := s3) h1 h2 h3 h4 hn hm hm2 q
  simp only [fdDrawP, List.drop_one, List.tail_cons] at tail0
  (first | refine If.hh (fun h => ?_) (fun h => ?_) | refine If.ha (fun h => ?_) (fun h => ?_) | refine If.ah (fun h => ?_) (fun h => ?_) | refine If.aa (fun h => ?_) (fun h => ?_))
  · have h : a = 0 := by simpa using h
    subst h
    simp
    (first | refine If.hh (fun h => ?_) (fun h => ?_) | refine If.ha (fun h => ?_) (fun h => ?_) | refine If.ah (fun h => ?_) (fun h => ?_) | refine If.aa (fun h => ?_) (fun h => ?_))
    · have h : (c : Int) < ns.length + 3 := by simpa [Int.add_assoc] using h
      simp
      have e0 : atI (.int 0 :: .int b :: .int c :: ns.map D.int) (c : Int) = some (.int (ns[c - 3]'(by omega))) := by
        rw [atI_nat']
        obtain ⟨k, rfl⟩ : ∃ k, c = k + 3 := ⟨c - 3, by omega⟩
        simp
      rw [e0]
      generalize ns[c - 3]'_ = x
      simp
      refine ⟨mulOk_r (by decide) (by decide), ?_⟩
      have e1 := fmod_pos (b * 31 + x) 2147483647 (by decide)
      generalize (b * 31 + x).fmod 2147483647 = b' at e1
      (first | refine If.hh (fun h2 => ?_) (fun h2 => ?_) | refine If.ha (fun h2 => ?_) (fun h2 => ?_) | refine If.ah (fun h2 => ?_) (fun h2 => ?_) | refine If.aa (fun h2 => ?_) (fun h2 => ?_))
      · simp
        simpa using tail0 (if x < 0 then -x else x) b' (c + 1) (.val (.int x)) (by split <;> omega) e1.1 e1.2 (by omega)
      · simp
        simpa using tail0 0 b' (c + 1) (.val (.int x)) (by decide) e1.1 e1.2 (by omega)
    · simpa using tail0 0 b c .un (by decide) hb hb2 hc
  · simpa using tail0 a b c .un ha hb hb2 hc
theorem pickP_run {i k : Nat} (hP : P i = some (fdPickP k)) (hk : P k = some fdDrawP) {st : List D} {ds : List D} (hs : StP st) (h0 : ds ≠ []) (hl : ds.length < 2 ^ 64) (q : ∀ st' d, StP st' → d ∈ ds → Q (.val d, [.own st', .un])) : Post (callF P (n + 2) i [.own st, .val (.lst ds)]) Q := by
  rw [post_fn hP]
  simp [fdPickP]
  have lp := List.length_pos_iff.mpr h0
  refine drawP_run hk hs (by omega) (by omega) fun st' v hs' v0 vm => ?_
  simp
  obtain ⟨z, rfl⟩ := Int.eq_ofNat_of_zero_le v0
  rw [atI_nat', List.getElem?_eq_getElem (show z < ds.length by omega)]
  simp
  exact q _ _ hs' (List.getElem_mem _)
theorem shufP_run {i k : Nat} (hP : P i = some (fdShufP k)) (hk : P k = some fdDrawP) {st : List D} {ds : List D} (hs : StP st) (hl : ds.length ≤ 16777216) (q : ∀ st' es, StP st' → es.Perm ds → Q (.own es, [.own st', .un])) : Post (callF P (n + 2) i [.own st, .val (.lst ds)]) Q := by
  rw [post_fn hP]
  simp [fdShufP]
  refine ⟨rgOk_ok (by omega) (by omega) (by omega) (by omega), ?_⟩
  have e2 : (rgD 0 (ds.length : Int)).length = ds.length := by simp [rgD]
  generalize rgD 0 (ds.length : Int) = xs at e2
  refine compL_inv (fun rest acc l => ∃ st left c3, StP st ∧ left.length = rest.length ∧ acc.length + rest.length = xs.length ∧ (acc ++ left).Perm ds ∧ l = [.own st, .val (.lst ds), .own left, c3]) ⟨st, ds, .un, hs, by omega, by simp, List.Perm.refl _, rfl⟩ (fun d rest acc l hh => ?_) (fun acc l hh => ?_)
  · obtain ⟨st, left, c3, hs, h1, h2, h3, rfl⟩ := hh
    simp [bindT]
    simp at h1 h2
    refine drawP_run hk hs (by omega) (by omega) fun st' v hs' v0 vm => ?_
    simp
    obtain ⟨z, rfl⟩ := Int.eq_ofNat_of_zero_le v0
    have hz : z < left.length := by omega
    refine m_popAt hz ?_
    refine ⟨by omega, st', hs', left.eraseIdx z, by rw [List.length_eraseIdx_of_lt hz]; omega, by omega, ?_, rfl, rfl⟩
    exact (List.Perm.append_left acc (cons_erase hz)).trans h3
  · obtain ⟨st, left, c3, hs, h1, h2, h3, rfl⟩ := hh
    simp at h1
    subst h1
    simp at h3
    simp
    exact q _ _ hs h3
theorem sameP_int {i : Nat} (hP : P i = some (fdSameP i)) {x : Int} (q : Q (.val (.bl true), [.un, .un])) : Post (callF P (n + 1) i [.val (.int x), .val (.int x)]) Q := by
  rw [post_fn hP]
  simp [fdSameP, istD]
  exact q
theorem sameP_non {i : Nat} (hP : P i = some (fdSameP i)) (q : Q (.val (.bl true), [.un, .un])) : Post (callF P (n + 1) i [.val .non, .val .non]) Q := by
  rw [post_fn hP]
  simp [fdSameP, istD]
  exact q
theorem sameP_str {i : Nat} (hP : P i = some (fdSameP i)) {x : Str} (h : okEq (.str x) = true) (h2 : eqD (.str x) (.str x) = true) (q : Q (.val (.bl true), [.un, .un])) : Post (callF P (n + 1) i [.val (.str x), .val (.str x)]) Q := by
  rw [post_fn hP]
  simp [fdSameP, istD, h, h2]
  exact q
theorem sameP_tup {i m : Nat} (hP : P i = some (fdSameP i)) {xs : List D} (hl : xs.length ≤ 1000000) (h : ∀ x ∈ xs, ∀ Q : Sl × List Sl → Prop, Q (.val (.bl true), [.un, .un]) → Post (callF P m i [.val x, .val x]) Q) (q : Q (.val (.bl true), [.un, .un])) : Post (callF P (m + 1) i [.val (.tup xs), .val (.tup xs)]) Q := by
  rw [post_fn hP]
  simp [fdSameP, istD]
  refine ⟨rgOk_ok (by omega) (by omega) (by omega) (by omega), ?_⟩
  have e2 : rgD 0 (xs.length : Int) = (List.range xs.length).map fun j => D.int (j : Nat) := by simp [rgD]
  rw [e2]
  refine compL_fm (List.range xs.length) (fun j => D.int (j : Nat)) (fun _ => false) (fun _ => .non) (fun l => ∃ c, l = [.val (.tup xs), .val (.tup xs), c]) rfl ⟨_, rfl⟩ (by simp; omega) (fun a l ha hI => ?_) (fun l hI => ?_)
  · obtain ⟨c, rfl⟩ := hI
    have hz : a < xs.length := List.mem_range.mp ha
    simp [bindT]
    rw [atI_nat', List.getElem?_eq_getElem hz]
    simp
    refine h _ (List.getElem_mem _) _ ?_
    simp
  · obtain ⟨c, rfl⟩ := hI
    have e0 : (List.range xs.length).filter (fun _ => false) = [] := List.filter_eq_nil_iff.mpr (by simp)
    rw [e0]
    simp
    exact ⟨by decide +kernel, by simpa [show eqD (.lst []) (.lst []) = true by decide +kernel] using q⟩
theorem sameP_fr {i : Nat} (hP : P i = some (fdSameP i)) {x : Rat} (q : Q (.val (.bl true), [.un, .un])) : Post (callF P (n + 2) i [.val (fr x), .val (fr x)]) Q := by
  refine sameP_tup hP (by simp) (fun y hy Q q => ?_) q
  simp at hy
  rcases hy with rfl | rfl
  · exact sameP_int hP q
  · exact sameP_int hP q
/-! ### the law's own fractions -/
theorem frb_pool {i : Nat} (h : P i = some fdLFracP) : Frb P i := ⟨fun {n t b N Q} hN ht hb b0 q => by
  rw [post_fn h]
  have gp := FR.gcd_pos (t := t) b0
  have gl : Nat.log2 (Int.gcd t b) < 9000 := by
    have le : Int.gcd t b ≤ b.natAbs := by
      rw [Int.gcd_eq_natAbs_gcd_natAbs]
      exact Nat.gcd_le_right _ (Nat.pos_of_ne_zero (by omega))
    exact (Nat.log2_lt (by omega)).mpr (Nat.lt_of_le_of_lt le (Nat.lt_of_lt_of_le hb (Nat.pow_le_pow_right (by decide) (by omega))))
  have g0 : (Int.gcd t b : Int) ≠ 0 := by omega
  unfold fr at q
  rw [← (nTB_eq (t := t) b0).1, ← (nTB_eq (t := t) b0).2] at q
  unfold FR.nT FR.nB at q
  simp [fdLFracP]
  have ea : (if t < 0 then -t else t) = ((t.natAbs : Nat) : Int) := by split <;> omega
  have eb : (if b < 0 then -b else b) = ((b.natAbs : Nat) : Int) := by split <;> omega
  rw [ea, eb]
  refine ⟨rgOk_ok (by omega) (by omega) (by omega) (by omega), ?_⟩
  have e := rgD_length 0 20000
  generalize rgD 0 20000 = xs at e ⊢
  -- behind the loop
  have fin : ∀ c : Sl, Post (exB (callF P (n + 1)) (fdLFracP.body.drop 2) [.val (.int t), .val (.int b), c, .un, .val (.int (Int.gcd t b : Int)), .val (.int 0)]) (endQ 2 none Q) := fun c => by
    simp [fdLFracP]
    have em : (if 1 < (Int.gcd t b : Int) then (Int.gcd t b : Int) else 1) = (Int.gcd t b : Int) := by split <;> omega
    (first | refine If.hh (fun h => ?_) (fun h => ?_) | refine If.ha (fun h => ?_) (fun h => ?_) | refine If.ah (fun h => ?_) (fun h => ?_) | refine If.aa (fun h => ?_) (fun h => ?_))
    · have h : 0 < b := by simpa using h
      simp
      rw [em]
      have e3 : (if b < 0 then -b else b) = b := if_neg (by omega)
      rw [e3]
      simp [g0, gl]
      rw [if_pos h, if_pos h] at q
      rw [Int.fdiv_eq_ediv_of_dvd (Int.gcd_dvd_left _ _), Int.fdiv_eq_ediv_of_dvd (Int.gcd_dvd_right _ _)]
      exact ⟨mulOk_l (by decide) (by decide), fun _ => b0, q⟩
    · have h : ¬ 0 < b := by simpa using h
      simp
      rw [em]
      have e3 : (if b < 0 then -b else b) = -b := if_pos (by omega)
      rw [e3]
      simp [g0, gl]
      rw [if_neg h, if_neg h] at q
      rw [Int.fdiv_eq_ediv_of_dvd (Int.dvd_neg.mpr (Int.gcd_dvd_left _ _)), Int.fdiv_eq_ediv_of_dvd (Int.dvd_neg.mpr (Int.gcd_dvd_right _ _))]
      exact ⟨mulOk_l (by decide) (by decide), fun _ => b0, q⟩
  simp only [fdLFracP, List.drop_succ_cons, List.drop_zero] at fin
  refine forL_inv (fun ds l => ∃ (m h' lo' : Nat) (c : Sl), l = [.val (.int t), .val (.int b), c, .un, .val (.int h'), .val (.int lo')] ∧ Nat.gcd h' lo' = Int.gcd t b ∧ FR.Far m h' lo' ∧ m ≤ ds.length) ?_ (fun d ds l hh => ?_) (fun l hh => ?_)
  · refine ⟨2 * N + 1, t.natAbs, b.natAbs, _, rfl, by rw [Int.gcd_eq_natAbs_gcd_natAbs], FR.far_of ht hb, ?_⟩
    rw [e]; omega
  · obtain ⟨m, h', lo', c, rfl, hg, hf, hm⟩ := hh
    simp [bindT]
    (first | refine If.hh (fun h0 => ?_) (fun h0 => ?_) | refine If.ha (fun h0 => ?_) (fun h0 => ?_) | refine If.ah (fun h0 => ?_) (fun h0 => ?_) | refine If.aa (fun h0 => ?_) (fun h0 => ?_))
    · have h0 : lo' = 0 := by simpa using h0
      subst h0
      rw [Nat.gcd_zero_right] at hg
      simp
      rw [hg]
      have := fin (.val d)
      simpa using this
    · have h0 : lo' ≠ 0 := by simpa using h0
      obtain ⟨m0, hf'⟩ := hf.next (Nat.pos_of_ne_zero h0)
      simp
      rw [List.length_cons] at hm
      refine ⟨h0, m - 1, lo', h' % lo', ⟨rfl, ?_⟩, ?_, hf', by omega⟩
      · rw [Int.fmod_eq_emod_of_nonneg _ (Int.natCast_nonneg lo')]; rfl
      · rw [Nat.gcd_comm lo', ← Nat.gcd_rec, Nat.gcd_comm, hg]
  · obtain ⟨m, h', lo', c, rfl, hg, hf, hm⟩ := hh
    have m0 : m = 0 := by simpa using hm
    subst m0
    have h0 : lo' = 0 := by
      rcases hf with ⟨h1, h2⟩ | ⟨h1, _⟩
      · have := Nat.lt_one_iff.mp h2
        rcases Nat.mul_eq_zero.mp this with z | z <;> omega
      · exact absurd h1 (Nat.lt_irrefl 0)
    subst h0
    rw [Nat.gcd_zero_right] at hg
    simp
    rw [hg]
    have := fin c
    simpa using this⟩
end
end DL

set_option Elab.async false
set_option linter.all false
set_option maxRecDepth 100000
set_option maxHeartbeats 4000000
set_option exponentiation.threshold 20000
namespace DL
open PySem PySem.Spec PyProof.Rows L2 PLn

/-! ## corners in a list -/
def crvL (cs : Cv) : D := .lst (cs.map cor)
section
variable {P : Nat → Option FD} {Q : Sl × List Sl → Prop} {n N T k i f : Nat} {cs : Cv} {t : Rat}
theorem slopeOf_runL {dv sb : Nat} (hP : P i = some (fdSlopeOf dv sb)) (hd : P dv = some (fdDiv f)) (hs : P sb = some (fdSub f)) (F : Frb P f) (r : Rise cs) (b : Bds N cs) (hk : k + 2 ≤ cs.length) (hN : 4 * N + 10 ≤ 4000) (q : Q (.val (fr (slope cs k)), [.un, .un])) :
    Post (callF P (n + 4) i [.val (crvL cs), .val (.int k)]) Q := by
  rw [post_fn hP]
  unfold crvL
  simp [fdSlopeOf, crv_at (show k < cs.length by omega), crv_at1 (show k + 1 < cs.length by omega)]
  refine sub_run hs F (b.y (k := k + 1) (by omega)) (b.y (k := k) (by omega)) (by omega) ?_
  simp [crv_at (show k < cs.length by omega), crv_at1 (show k + 1 < cs.length by omega)]
  refine sub_run hs F (b.x (k := k + 1) (by omega)) (b.x (k := k) (by omega)) (by omega) ?_
  simp
  refine div_run hd F (bd_sub (b.y (k := k + 1) (by omega)) (b.y (k := k) (by omega))) (bd_sub (b.x (k := k + 1) (by omega)) (b.x (k := k) (by omega))) (Rat.ne_of_gt (r.dx hk)) (by omega) ?_
  simp
  exact q
theorem pieceOf_runL {le : Nat} (hP : P i = some (fdPieceOf le)) (hl : P le = some fdLess) (r : Rise cs) (b : Bds N cs) (bt : Bd T t) (hc : cs.length ≤ 1000) (hN : N + T + 1 ≤ 4000) (q : ∀ k : Nat, Pce cs k t → Q (.val (.int k), [.un, .un])) :
    Post (callF P (n + 2) i [.val (crvL cs), .val (fr t)]) Q := by
  rw [post_fn hP]
  have h2 := r.two
  simp [fdPieceOf, crvL]
  refine ⟨rgOk_ok (by omega) (by omega) (by omega) (by omega), ?_⟩
  have hget := fun i d => @rgD_get 0 ((cs.length : Int) - 2) i d
  have hlen := rgD_length 0 ((cs.length : Int) - 2)
  generalize rgD 0 ((cs.length : Int) - 2) = zs at hget hlen ⊢
  refine forL_ix (fun i l => ∃ c, l = [.val (.lst (cs.map cor)), .val (fr t), c] ∧ (i = 0 ∨ px cs i ≤ t)) ⟨_, rfl, .inl rfl⟩ (fun i d l hd hh => ?_) (fun l hh => ?_)
  · obtain ⟨c, rfl, h0⟩ := hh
    obtain ⟨rfl, hi⟩ := hget _ _ hd
    have hi : i + 2 < cs.length := by omega
    simp [crv_at1 (show i + 1 < cs.length by omega)]
    refine less_run hl (b.x (k := i + 1) (by omega)) bt hN ?_
    simp
    (first | refine If.hh (fun hlt => ?_) (fun hlt => ?_) | refine If.ha (fun hlt => ?_) (fun hlt => ?_) | refine If.ah (fun hlt => ?_) (fun hlt => ?_) | refine If.aa (fun hlt => ?_) (fun hlt => ?_))
    · have hlt : ¬ px cs (i + 1) < t := by simpa using hlt
      simp
      exact q i ⟨by omega, h0, .inr (by grind)⟩
    · have hlt : px cs (i + 1) < t := by simpa using hlt
      simp
      exact Rat.le_of_lt hlt
  · obtain ⟨c, rfl, h0⟩ := hh
    simp
    have e : (cs.length : Int) - 2 = ((cs.length - 2 : Nat) : Int) := by omega
    rw [e]
    refine q _ ⟨by omega, ?_, .inl (by omega)⟩
    rcases h0 with z | z
    · exact .inl (by omega)
    · refine .inr ?_
      have : cs.length - 2 = zs.length := by omega
      rw [this]; exact z
theorem dropOn_runL {ad ml sl sb dv : Nat} (hP : P i = some (fdDropOn ad ml sl sb)) (ha : P ad = some (fdAdd f)) (hm : P ml = some (fdMul f)) (hS : P sl = some (fdSlopeOf dv sb)) (hd : P dv = some (fdDiv f)) (hs : P sb = some (fdSub f)) (F : Frb P f)
    (r : Rise cs) (b : Bds N cs) (bt : Bd T t) (hk : k + 2 ≤ cs.length) (hN : 6 * N + T + 10 ≤ 4000) (q : Q (.val (fr (line cs k t)), [.un, .un, .un])) : Post (callF P (n + 5) i [.val (crvL cs), .val (.int k), .val (fr t)]) Q := by
  rw [post_fn hP]
  have ec : crvL cs = .lst (cs.map cor) := rfl
  simp [fdDropOn, ec, crv_at (show k < cs.length by omega)]
  rw [← ec]
  refine slopeOf_runL hS hd hs F r b hk (by omega) ?_
  simp
  refine sub_run hs F bt (b.x (k := k) (by omega)) (by omega) ?_
  simp
  refine mul_run hm F (b.slope r hk) (bd_sub bt (b.x (k := k) (by omega))) (by omega) ?_
  simp
  refine add_run ha F (b.y (k := k) (by omega)) (bd_mul (b.slope r hk) (bd_sub bt (b.x (k := k) (by omega)))) (by omega) ?_
  simp
  exact q
theorem dropAt_runL (H : DropP P i) (r : Rise cs) (b : Bds N cs) (bt : Bd T t) (hc : cs.length ≤ 1000) (hN : 6 * N + T + 10 ≤ 4000) (q : ∀ d, At cs t d → Q (.val (fr d), [.un, .un])) : Post (callF P (n + 6) i [.val (crvL cs), .val (fr t)]) Q := by
  obtain ⟨f, on, pc, le, ad, ml, sl, sb, dv, h1, h2, h3, h4, h5, h6, h7, h8, h9, F⟩ := H.ex
  rw [post_fn h1]
  simp [fdDropAt]
  refine pieceOf_runL h3 h4 r b bt hc (by omega) fun k g => ?_
  simp
  refine dropOn_runL h2 h5 h6 h7 h8 h9 F r b bt g.lt hN ?_
  simp
  exact q _ ⟨k, g, rfl⟩
end
/-! ## equality of fractions, of corners -/
theorem okEq_fr (x : Rat) : okEq (fr x) = true := by
  unfold okEq fr
  simp [toPy, toPyL, SeqAt.shaped, PyData.canLay0, PyData.canLayAll0, PyData.depth, PyData.depthAll]
theorem eqD_fr (x y : Rat) : eqD (fr x) (fr y) = decide (x = y) := by
  unfold eqD fr
  simp only [toPy, toPyL, PyData.eqv, PyData.eqvAll, Bool.and_true]
  by_cases h : x = y
  · subst h; simp
  · rw [decide_eq_false h]
    by_cases h1 : x.num = y.num
    · have h2 : ¬ x.den = y.den := fun z => h (Rat.ext h1 z)
      simp [h1]
      omega
    · simp [h1]
theorem okEq_cor (p : Rat × Rat) : okEq (cor p) = true := by
  unfold okEq cor fr
  simp [toPy, toPyL, SeqAt.shaped, PyData.canLay0, PyData.canLayAll0, PyData.depth, PyData.depthAll]
theorem eqD_cor (p q : Rat × Rat) : eqD (cor p) (cor q) = decide (p = q) := by
  have e : eqD (cor p) (cor q) = (eqD (fr p.1) (fr q.1) && eqD (fr p.2) (fr q.2)) := by
    unfold eqD cor
    simp only [toPy, toPyL, PyData.eqv, PyData.eqvAll, Bool.and_true]
  rw [e, eqD_fr, eqD_fr]
  obtain ⟨a, b⟩ := p
  obtain ⟨c, d⟩ := q
  by_cases h1 : a = c <;> by_cases h2 : b = d <;> simp [h1, h2]
/-! ## pairs of ints, sorted -/
abbrev pD (p : Int × Int) : D := .tup [.int p.1, .int p.2]
def leP (p q : Int × Int) : Bool := !decide (q.1 < p.1 ∨ (q.1 = p.1 ∧ q.2 < p.2))
theorem leP_iff {p q : Int × Int} : leP p q = true ↔ (p.1 < q.1 ∨ (p.1 = q.1 ∧ p.2 ≤ q.2)) := by
  unfold leP
  simp only [Bool.not_eq_true', decide_eq_false_iff_not]
  omega
theorem srt_pairs (L : List (Int × Int)) : srtD (L.map pD) = (L.mergeSort leP).map pD := by
  unfold srtD
  rw [List.map_mergeSort (s := PySem.W.dataLe false toPy)]
  intro a _ b _
  have e : PySem.W.dataLe false toPy (pD a) (pD b) = !PySem.W.dataLt (toPy (pD b)) (toPy (pD a)) := rfl
  rw [e]
  unfold leP
  simp only [toPy, toPyL, PySem.W.dataLt_ii]
theorem srt_pairs_ok (L : List (Int × Int)) : srtOk (L.map pD) = true := by
  unfold srtOk alikeD
  simp only [Bool.and_eq_true, Bool.or_eq_true, List.all_eq_true]
  refine ⟨⟨fun d hd e he => ?_, .inl fun d hd => ?_⟩, fun d hd => ?_⟩
  · obtain ⟨a, _, rfl⟩ := List.mem_map.mp hd
    obtain ⟨b, _, rfl⟩ := List.mem_map.mp he
    simp [toPy, toPyL, PySem.W.alike, PySem.W.alikeAll]
  · obtain ⟨a, _, rfl⟩ := List.mem_map.mp hd
    rfl
  · obtain ⟨a, _, rfl⟩ := List.mem_map.mp hd
    simp [toPy, toPyL, PyData.depth, PyData.depthAll]
theorem srt_pairs_sorted (L : List (Int × Int)) : (L.mergeSort leP).Pairwise fun p q => leP p q = true :=
  List.pairwise_mergeSort (fun a b c h1 h2 => by rw [leP_iff] at *; omega) (fun a b => by
    rw [Bool.or_eq_true, leP_iff, leP_iff]; omega) L
/-! ## signs -/
theorem num_pos {x : Rat} : 0 < x.num ↔ 0 < x := by
  rw [Rat.lt_iff]
  simp
theorem num_neg {x : Rat} : x.num < 0 ↔ x < 0 := by
  rw [Rat.lt_iff]
  simp
end DL

set_option Elab.async false
set_option linter.all false
set_option maxRecDepth 100000
set_option maxHeartbeats 4000000
namespace DL
open PySem PySem.Spec PyProof.Rows L2

/-! ## lists with own lists within: rules -/
section
variable {Γ : Gam} {l : Loc}
@[simp] theorem nstAt_0 {cs : List Cl} : nstAt (.nst cs :: l) 0 = some cs := rfl
@[simp] theorem nstAt_s {s : Sl} {i : Nat} : nstAt (s :: l) (i + 1) = nstAt l i := rfl
@[simp] theorem isSet_n {cs : List Cl} : isSet (.nst cs :: l) 0 = true := rfl
@[simp] theorem isSet_v {d : D} : isSet (.val d :: l) 0 = true := rfl
@[simp] theorem isSet_s {s : Sl} {i : Nat} : isSet (s :: l) (i + 1) = isSet l i := rfl
@[simp] theorem cellOf_o {ds : List D} : cellOf true (.own ds) = .o ds := rfl
@[simp] theorem cellOf_f {s : Sl} : cellOf false s = .v s.d := rfl
@[simp] theorem cellOf_v {b : Bool} {d : D} : cellOf b (.val d) = .v d := by cases b <;> rfl
@[simp] theorem cellsOf_nil {ks : List Nat} {n : Nat} : cellsOf ks n [] = [] := rfl
@[simp] theorem cellsOf_cons {ks : List Nat} {n : Nat} {s : Sl} {ss : List Sl} : cellsOf ks n (s :: ss) = cellOf (ks.contains n) s :: cellsOf ks (n + 1) ss := rfl
@[simp] theorem p_frz {i : Nat} {Q : Sl × Loc → Prop} : Post (evX Γ (.frz i) l) Q ↔ On l[i]? fun s => match s with
    | .val d => Q (.val d, l)
    | .own ds => Q (.val (.lst ds), l.set i (.val (.lst ds)))
    | .nst cs => Q (.val (.lst (cs.map Cl.d)), l.set i (.val (.lst (cs.map Cl.d))))
    | .un => False := by
  rw [evX.eq_def]; dsimp only
  cases l[i]? with
  | none => exact Iff.rfl
  | some s => cases s <;> exact Iff.rfl
@[simp] theorem p_mov {i : Nat} {Q : Sl × Loc → Prop} : Post (evX Γ (.mov i) l) Q ↔ On l[i]? fun s => match s with
    | .val d => Q (.val d, l)
    | .own ds => Q (.own ds, l.set i .un)
    | .nst cs => Q (.nst cs, l.set i .un)
    | .un => False := by
  rw [evX.eq_def]; dsimp only
  cases l[i]? with
  | none => exact Iff.rfl
  | some s => cases s <;> exact Iff.rfl
/-- an item of slot i, by cells or by data -/
def ItQ (i : Nat) (Q : Sl × Loc → Prop) (r : Sl × Loc) : Prop := match r.2[i]? with
  | some (.nst cs) => Ni r.1.d fun j => On (ixN cs.length j) fun m => On cs[m]? fun c => Q (.val c.d, r.2.set i (.nst (cs.set m (.v c.d))))
  | some (.val d) => Ni r.1.d fun j => On (primD .ix [d, .int j]) fun s => Q (s, r.2)
  | _ => False
@[simp] theorem p_nit {i : Nat} {k : E} {Q : Sl × Loc → Prop} : Post (evX Γ (.nit i k) l) Q ↔ isSet l i = true ∧ Post (evX Γ k l) (ItQ i Q) := by
  rw [evX.eq_def]; dsimp only
  cases isSet l i with
  | false => exact ⟨fun h => h.elim, fun h => by cases h.1⟩
  | true =>
    rw [if_pos rfl, Post.bind]
    have : ∀ r : Sl × Loc, Post (match r.2[i]?, r.1.d with
      | some (.nst cs), .int j => (match ixN cs.length j with
        | some m => (match cs[m]? with
          | some c => R.ok (Sl.val c.d, r.2.set i (.nst (cs.set m (.v c.d))))
          | none => .bad)
        | none => .bad)
      | some (.val d), .int j => (match primD .ix [d, .int j] with
        | some s => R.ok (s, r.2)
        | none => .bad)
      | _, _ => .bad) Q ↔ ItQ i Q r := fun r => by
      obtain ⟨s, l'⟩ := r
      unfold ItQ
      dsimp only
      cases l'[i]? with
      | none => exact Iff.rfl
      | some z =>
        cases z with
        | un => exact Iff.rfl
        | own ds => exact Iff.rfl
        | val d =>
          cases s.d with
          | int j => dsimp only [Ni]; cases primD .ix [d, .int j] <;> exact Iff.rfl
          | _ => exact Iff.rfl
        | nst cs =>
          cases s.d with
          | int j =>
            dsimp only [Ni]
            cases ixN cs.length j with
            | none => exact Iff.rfl
            | some m => dsimp only [On]; cases cs[m]? <;> exact Iff.rfl
          | _ => exact Iff.rfl
    exact ⟨fun h => ⟨rfl, h.imp fun a q => (this a).mp q⟩, fun h => h.2.imp fun a q => (this a).mpr q⟩
/-- a cell -/
def CeQ (i : Nat) (Q : List Cl → Nat → Cl → Loc → Prop) (r : Sl × Loc) : Prop := On (nstAt r.2 i) fun cs => Ni r.1.d fun j => On (ixN cs.length j) fun m => On cs[m]? fun c => Q cs m c r.2
theorem ce_iff {α : Type} {i : Nat} {Q : α → Prop} {k : E} {F : List Cl → Nat → Cl → Loc → R α} {Q2 : List Cl → Nat → Cl → Loc → Prop} (h : ∀ cs m c l, Post (F cs m c l) Q ↔ Q2 cs m c l) :
    Post (match nstAt l i with
    | some _ => (evX Γ k l).bind fun r => (match nstAt r.2 i, r.1.d with
      | some cs, .int j => (match ixN cs.length j with
        | some m => (match cs[m]? with
          | some c => F cs m c r.2
          | none => .bad)
        | none => .bad)
      | _, _ => .bad)
    | none => .bad) Q ↔ On (nstAt l i) fun _ => Post (evX Γ k l) (CeQ i Q2) := by
  cases nstAt l i with
  | none => exact Iff.rfl
  | some _ =>
    dsimp only [On]
    rw [Post.bind]
    have : ∀ r : Sl × Loc, Post (match nstAt r.2 i, r.1.d with
      | some cs, .int j => (match ixN cs.length j with
        | some m => (match cs[m]? with
          | some c => F cs m c r.2
          | none => .bad)
        | none => .bad)
      | _, _ => .bad) Q ↔ CeQ i Q2 r := fun r => by
      obtain ⟨s, l'⟩ := r
      unfold CeQ
      dsimp only
      cases nstAt l' i with
      | none => exact Iff.rfl
      | some cs =>
        cases s.d with
        | int j =>
          dsimp only [Ni, On]
          cases ixN cs.length j with
          | none => exact Iff.rfl
          | some m =>
            dsimp only [On]
            cases cs[m]? with
            | none => exact Iff.rfl
            | some c => exact h cs m c l'
        | _ => exact Iff.rfl
    exact ⟨fun h => h.imp fun a q => (this a).mp q, fun h => h.imp fun a q => (this a).mpr q⟩
def OwC (c : Cl) (Q : List D → Prop) : Prop := match c with
  | .o ds => Q ds
  | .v _ => False
@[simp] theorem OwC_o {ds : List D} {Q : List D → Prop} : OwC (.o ds) Q = Q ds := rfl
@[simp] theorem p_npk {p : Prim} {i : Nat} {k : E} {Q : Sl × Loc → Prop} : Post (evX Γ (.npk p i k) l) Q ↔ On (nstAt l i) fun _ => Post (evX Γ k l) (CeQ i fun cs m c l1 => On (primD p [c.d]) fun s => Q (s, l1)) := by
  rw [evX.eq_def]; dsimp only
  exact ce_iff (F := fun cs m c l1 => match primD p [c.d] with | some s => R.ok (s, l1) | none => .bad) fun cs m c l1 => by cases primD p [c.d] <;> exact Iff.rfl
theorem bindP {α β : Type} {r : R α} {f : α → R β} {Q : β → Prop} {Q2 : α → Prop} (h : ∀ a, Post (f a) Q ↔ Q2 a) : Post (r.bind f) Q ↔ Post r Q2 := by
  rw [Post.bind]
  exact ⟨fun g => g.imp fun a q => (h a).mp q, fun g => g.imp fun a q => (h a).mpr q⟩
theorem ceo_iff {α : Type} {i : Nat} {Q : α → Prop} {k : E} {F : List Cl → Nat → List D → Loc → R α} {Q2 : List Cl → Nat → List D → Loc → Prop} (h : ∀ cs m c l, Post (F cs m c l) Q ↔ Q2 cs m c l) :
    Post (match nstAt l i with
    | some _ => (evX Γ k l).bind fun r => (match nstAt r.2 i, r.1.d with
      | some cs, .int j => (match ixN cs.length j with
        | some m => (match cs[m]? with
          | some (.o ds) => F cs m ds r.2
          | _ => .bad)
        | none => .bad)
      | _, _ => .bad)
    | none => .bad) Q ↔ On (nstAt l i) fun _ => Post (evX Γ k l) (CeQ i fun cs m c l1 => OwC c fun ds => Q2 cs m ds l1) := by
  cases nstAt l i with
  | none => exact Iff.rfl
  | some _ =>
    dsimp only [On]
    refine bindP fun r => ?_
    obtain ⟨s, l'⟩ := r
    unfold CeQ
    dsimp only
    cases nstAt l' i with
    | none => exact Iff.rfl
    | some cs =>
      cases s.d with
      | int j =>
        dsimp only [Ni, On]
        cases ixN cs.length j with
        | none => exact Iff.rfl
        | some m =>
          dsimp only [On]
          cases cs[m]? with
          | none => exact Iff.rfl
          | some c =>
            cases c with
            | v d => exact Iff.rfl
            | o ds => exact h cs m ds l'
      | _ => exact Iff.rfl
@[simp] theorem p_nmt {m : Mt} {i : Nat} {k : E} {es : List E} {Q : Sl × Loc → Prop} : Post (evX Γ (.nmt m i k es) l) Q ↔ On (nstAt l i) fun _ => Post (evX Γ k l) (CeQ i fun cs n c l1 => OwC c fun ds => Post (evDs Γ es (l1.set i .un)) fun r1 => On (mthD m ds r1.1) fun z => Q (.val z.1, r1.2.set i (.nst (cs.set n (.o z.2))))) := by
  rw [evX.eq_def]; dsimp only
  exact ceo_iff (F := fun cs n ds l1 => (evDs Γ es (l1.set i .un)).bind fun r1 => (match mthD m ds r1.1 with
            | some z => R.ok (Sl.val z.1, r1.2.set i (.nst (cs.set n (.o z.2))))
            | none => .bad)) fun cs n ds l1 => bindP fun r1 => by cases mthD m ds r1.1 <;> exact Iff.rfl
def VaQ (o : Option Sl) (Q : D → Prop) : Prop := match o with
  | some (.val d) => Q d
  | _ => False
@[simp] theorem VaQ_v {d : D} {Q : D → Prop} : VaQ (some (.val d)) Q = Q d := rfl
@[simp] theorem p_niy {i : Nat} {k j : E} {Q : Sl × Loc → Prop} : Post (evX Γ (.niy i k j) l) Q ↔ On (nstAt l i) fun _ => Post (evX Γ k l) (CeQ i fun cs n c l1 => Post (evX Γ j (l1.set i .un)) fun r1 => Ni r1.1.d fun b => VaQ (primD .ix [c.d, .int b]) fun d => Q (.val d, r1.2.set i (.nst cs))) := by
  rw [evX.eq_def]; dsimp only
  exact ce_iff (F := fun cs n c l1 => (evX Γ j (l1.set i .un)).bind fun r1 => (match r1.1.d with
            | .int b => (match primD .ix [c.d, .int b] with
              | some (.val d) => R.ok (Sl.val d, r1.2.set i (.nst cs))
              | _ => .bad)
            | _ => .bad)) fun cs n c l1 => bindP fun r1 => by
    cases r1.1.d with
    | int b =>
      dsimp only [Ni]
      cases primD .ix [c.d, .int b] with
      | none => exact Iff.rfl
      | some s => cases s <;> exact Iff.rfl
    | _ => exact Iff.rfl
@[simp] theorem p_npa {ks : List Nat} {es : List E} {Q : Sl × Loc → Prop} : Post (evX Γ (.npa ks es) l) Q ↔ Post (evSs Γ es l) fun r => r.1.length ≤ 16777216 ∧ Q (.nst (cellsOf ks 0 r.1), r.2) := by
  rw [evX.eq_def]; dsimp only
  exact bindP fun r => by
    by_cases h : r.1.length ≤ 16777216
    · rw [if_pos h]; exact ⟨fun q => ⟨h, q⟩, fun q => q.2⟩
    · rw [if_neg h]; exact ⟨fun q => q.elim, fun q => h q.1⟩
@[simp] theorem p_ncm {elt : E} {tg : Tg} {ik : Nat} {ies ifs : List E} {ws : List Nat} {Q : Sl × Loc → Prop} : Post (evX Γ (.ncm elt tg ik ies ifs ws) l) Q ↔ Post (evDs Γ ies l) fun r => On (items ik r.1) fun xs =>
    Post (compN (bindT tg) (evTs Γ ifs) (evX Γ elt) ws xs [] (wipeD r.2 ws)) fun p => Q (.nst p.1, p.2) := by
  rw [evX.eq_def]; dsimp only
  exact bindP fun r => by
    cases items ik r.1 with
    | none => exact Iff.rfl
    | some xs => dsimp only [On]; cases compN (bindT tg) (evTs Γ ifs) (evX Γ elt) ws xs [] (wipeD r.2 ws) <;> exact Iff.rfl
theorem compN_inv {bd : D → Loc → Option Loc} {ts : Loc → R (Bool × Loc)} {el : Loc → R (Sl × Loc)} {ws : List Nat} {Q : List Cl × Loc → Prop} (I : List D → List Cl → Loc → Prop) {xs : List D} {acc : List Cl} (h : I xs acc l)
    (step : ∀ d ds acc l, I (d :: ds) acc l → On (bd d (wipeD l ws)) fun l1 => Post (ts l1) fun r => If r.1 (Hd (el r.2) fun r2 => acc.length < 16777216 ∧ I ds (acc ++ [cellOf true r2.1]) (wipeD r2.2 ws)) (Ap (I ds acc) (wipeD r.2 ws)))
    (done : ∀ acc l, I [] acc l → Q (acc, l)) : Post (compN bd ts el ws xs acc l) Q := by
  induction xs generalizing acc l with
  | nil => exact done acc l h
  | cons d ds ih =>
    have s := step d ds acc l h
    rw [compN]
    cases e : bd d (wipeD l ws) with
    | none => rw [e] at s; exact s.elim
    | some l1 =>
      rw [e] at s
      refine Post.bind.mpr (Post.imp s fun r q => ?_)
      cases hr : r.1 with
      | true =>
        rw [hr, If_tH] at q
        rw [if_pos rfl]
        refine Post.bind.mpr (q.imp fun r2 q2 => ?_)
        rw [if_pos q2.1]
        exact ih q2.2
      | false =>
        rw [hr, If_fA] at q
        rw [if_neg Bool.false_ne_true]
        exact ih q
@[simp] theorem p_As_frz {i : Nat} {es : List E} {Q : List A × Loc → Prop} : Post (evAs Γ (.frz i :: es) l) Q ↔ Post (evX Γ (.frz i) l) fun r => Post (evAs Γ es r.2) fun r2 => Q (.dat r.1.d :: r2.1, r2.2) := p_As_cons rfl
@[simp] theorem p_As_nit {i : Nat} {k : E} {es : List E} {Q : List A × Loc → Prop} : Post (evAs Γ (.nit i k :: es) l) Q ↔ Post (evX Γ (.nit i k) l) fun r => Post (evAs Γ es r.2) fun r2 => Q (.dat r.1.d :: r2.1, r2.2) := p_As_cons rfl
@[simp] theorem p_As_npk {p : Prim} {i : Nat} {k : E} {es : List E} {Q : List A × Loc → Prop} : Post (evAs Γ (.npk p i k :: es) l) Q ↔ Post (evX Γ (.npk p i k) l) fun r => Post (evAs Γ es r.2) fun r2 => Q (.dat r.1.d :: r2.1, r2.2) := p_As_cons rfl
@[simp] theorem p_As_nmt {m : Mt} {i : Nat} {k : E} {fs es : List E} {Q : List A × Loc → Prop} : Post (evAs Γ (.nmt m i k fs :: es) l) Q ↔ Post (evX Γ (.nmt m i k fs) l) fun r => Post (evAs Γ es r.2) fun r2 => Q (.dat r.1.d :: r2.1, r2.2) := p_As_cons rfl
@[simp] theorem p_As_niy {i : Nat} {k j : E} {es : List E} {Q : List A × Loc → Prop} : Post (evAs Γ (.niy i k j :: es) l) Q ↔ Post (evX Γ (.niy i k j) l) fun r => Post (evAs Γ es r.2) fun r2 => Q (.dat r.1.d :: r2.1, r2.2) := p_As_cons rfl
@[simp] theorem p_As_npa {ks : List Nat} {fs es : List E} {Q : List A × Loc → Prop} : Post (evAs Γ (.npa ks fs :: es) l) Q ↔ Post (evX Γ (.npa ks fs) l) fun r => Post (evAs Γ es r.2) fun r2 => Q (.dat r.1.d :: r2.1, r2.2) := p_As_cons rfl
end
@[simp] theorem aftN_nst {as : List A} {pm : List Nat} {cs : List Cl} : aftN l as pm (.nst cs) = if (peeks l none as 0 pm).isEmpty || nolst (.lst (cs.map Cl.d)) then l else demotes l (peeks l none as 0 pm) := rfl
@[simp] theorem o_mulT (xs : List D) (k : Int) {Q : Sl → Prop} : On (primD .mul [.tup xs, .int k]) Q ↔ (2 ≤ k ∧ k ≤ 1000 ∧ xs.length ≤ 1000 ∧ xs ≠ []) ∧ Q (.val (.tup (List.replicate k.toNat xs).flatten)) := by
  show On (if decide (2 ≤ k ∧ k ≤ 1000 ∧ xs.length ≤ 1000 ∧ xs ≠ []) = true then some (Sl.val (.tup (List.replicate k.toNat xs).flatten)) else none) Q ↔ _
  rw [On_ite, decide_eq_true_eq]
/-! ### statements -/
section
variable {Γ : Gam} {l : Loc} {Q : Fl × Loc → Prop}
@[simp] theorem s_nsx {i : Nat} {k e : E} : Post (exS Γ (.nsx i k e) l) Q ↔ Post (evX Γ e l) fun r => On (nstAt r.2 i) fun _ => Post (evX Γ k r.2) fun r1 => On (nstAt r1.2 i) fun cs => Ni r1.1.d fun j => On (ixN cs.length j) fun m => Q (.nx, r1.2.set i (.nst (cs.set m (.v r.1.d)))) := by
  rw [exS.eq_def]; dsimp only
  exact bindP fun r => by
    cases nstAt r.2 i with
    | none => exact Iff.rfl
    | some _ =>
      dsimp only [On]
      exact bindP fun r1 => by
        cases nstAt r1.2 i with
        | none => exact Iff.rfl
        | some cs =>
          cases r1.1.d with
          | int j => dsimp only [Ni, On]; cases ixN cs.length j <;> exact Iff.rfl
          | _ => exact Iff.rfl
@[simp] theorem s_nap {i : Nat} {k e : E} : Post (exS Γ (.nap i k e) l) Q ↔ On (nstAt l i) fun _ => Post (evX Γ k l) (CeQ i fun cs n c l1 => OwC c fun ds => Post (evX Γ e (l1.set i .un)) fun r1 => ds.length < 16777216 ∧ Q (.nx, r1.2.set i (.nst (cs.set n (.o (ds ++ [r1.1.d])))))) := by
  rw [exS.eq_def]; dsimp only
  exact ceo_iff (F := fun cs n ds l1 => (evX Γ e (l1.set i .un)).bind fun r1 => if ds.length < 16777216 then R.ok (Fl.nx, r1.2.set i (.nst (cs.set n (.o (ds ++ [r1.1.d]))))) else .bad) fun cs n ds l1 => bindP fun r1 => by
      by_cases h : ds.length < 16777216
      · rw [if_pos h]; exact ⟨fun q => ⟨h, q⟩, fun q => q.2⟩
      · rw [if_neg h]; exact ⟨fun q => q.elim, fun q => h q.1⟩
@[simp] theorem s_nao {i : Nat} {e : E} : Post (exS Γ (.nao i e) l) Q ↔ On (nstAt l i) fun _ => Post (evX Γ e l) fun r => On (nstAt r.2 i) fun cs => cs.length < 16777216 ∧ Q (.nx, r.2.set i (.nst (cs ++ [cellOf true r.1]))) := by
  rw [exS.eq_def]; dsimp only
  cases nstAt l i with
  | none => exact Iff.rfl
  | some _ =>
    dsimp only [On]
    exact bindP fun r => by
      cases nstAt r.2 i with
      | none => exact Iff.rfl
      | some cs =>
        dsimp only
        by_cases h : cs.length < 16777216
        · rw [if_pos h]; exact ⟨fun q => ⟨h, q⟩, fun q => q.2⟩
        · rw [if_neg h]; exact ⟨fun q => q.elim, fun q => h q.1⟩
@[simp] theorem s_nsy {i : Nat} {k j e : E} : Post (exS Γ (.nsy i k j e) l) Q ↔ Post (evX Γ e l) fun r => On (nstAt r.2 i) fun _ => Post (evX Γ k r.2) (CeQ i fun cs n c l1 => OwC c fun ds => Post (evX Γ j (l1.set i .un)) fun r2 => Ni r2.1.d fun b => On (ixN ds.length b) fun m => Q (.nx, r2.2.set i (.nst (cs.set n (.o (ds.set m r.1.d)))))) := by
  rw [exS.eq_def]; dsimp only
  exact bindP fun r => ceo_iff (F := fun cs n ds l1 => (evX Γ j (l1.set i .un)).bind fun r2 => (match r2.1.d with
            | .int b => (match ixN ds.length b with
              | some m => R.ok (Fl.nx, r2.2.set i (.nst (cs.set n (.o (ds.set m r.1.d)))))
              | none => .bad)
            | _ => .bad)) fun cs n ds l1 => bindP fun r2 => by
      cases r2.1.d with
      | int b => dsimp only [Ni]; cases ixN ds.length b <;> exact Iff.rfl
      | _ => exact Iff.rfl
@[simp] theorem CeQ_eq {i : Nat} {Q2 : List Cl → Nat → Cl → Loc → Prop} {s : Sl} : CeQ i Q2 (s, l) ↔ On (nstAt l i) fun cs => Ni s.d fun j => On (ixN cs.length j) fun m => On cs[m]? fun c => Q2 cs m c l := Iff.rfl
@[simp] theorem ItQ_eq {i : Nat} {Q2 : Sl × Loc → Prop} {s : Sl} : ItQ i Q2 (s, l) ↔ match l[i]? with
    | some (.nst cs) => Ni s.d fun j => On (ixN cs.length j) fun m => On cs[m]? fun c => Q2 (.val c.d, l.set i (.nst (cs.set m (.v c.d))))
    | some (.val d) => Ni s.d fun j => On (primD .ix [d, .int j]) fun s => Q2 (s, l)
    | _ => False := Iff.rfl
end
end DL

set_option Elab.async false
set_option linter.all false
set_option maxRecDepth 100000
set_option maxHeartbeats 4000000
set_option exponentiation.threshold 20000
namespace DL
open PySem PySem.Spec PyProof.Rows L2 PLn

/-! ## drawn numbers: a bag with the great cells in a list of its own -/
def fdBag : FD := ⟨1, 4, none, [.set 1 (.prim .add [.comp (.prim .abs [.prim .int [.var 3]]) (.name 3) 0 [.var 0] [] [3], .pack false [.cst (.int 7)]]), .set 2 (.pack false []), .ite (.prim .eq [.prim .mod [.prim .int [.prim .ix [.var 1, .cst (.int 0)]], .cst (.int 2)], .cst (.int 0)]) [.set 2 (.comp (.prim .fdiv [.var 3, .cst (.int 2)]) (.name 3) 0 [.var 1] [.prim .ge [.var 3, .prim .pow [.cst (.int 10), .cst (.int 18)]]] [3]), .ex (.mth .rev 2 [])] [], .ret (.npa [2] [.cst (.int 0), .cst (.int 0), .mov 2, .comp (.prim .mod [.prim .int [.var 3], .cst (.int 2147483647)]) (.name 3) 0 [.var 1] [] [3]])]⟩
def fdBdraw : FD := ⟨2, 5, some 0, [.nsx 0 (.cst (.int 1)) (.prim .add [.nit 0 (.cst (.int 1)), .cst (.int 1)]), .ite (.and (.prim .eq [.nit 0 (.cst (.int 0)), .cst (.int 0)]) (.prim .gt [.npk .len 0 (.cst (.int 2)), .cst (.int 0)])) [.nsx 0 (.cst (.int 0)) (.nmt .pop 0 (.cst (.int 2)) [])] [], .ite (.prim .gt [.nit 0 (.cst (.int 0)), .cst (.int 0)]) [.set 4 (.prim .mod [.npk .int 0 (.cst (.int 0)), .var 1]), .nsx 0 (.cst (.int 0)) (.prim .fdiv [.nit 0 (.cst (.int 0)), .var 1]), .retv 4] [], .set 2 (.prim .ix [.nit 0 (.cst (.int 3)), .prim .mod [.npk .int 0 (.cst (.int 1)), .npk .len 0 (.cst (.int 3))]]), .set 3 (.prim .mod [.prim .int [.prim .add [.prim .add [.prim .mul [.var 2, .cst (.int 48271)], .prim .mul [.nit 0 (.cst (.int 1)), .cst (.int 69621)]], .cst (.int 1)]], .cst (.int 2147483647)]), .ret (.prim .mod [.prim .fdiv [.prim .mod [.prim .int [.prim .add [.prim .add [.prim .mul [.var 3, .var 3], .prim .mul [.var 3, .cst (.int 16807)]], .prim .mul [.nit 0 (.cst (.int 1)), .cst (.int 40014)]]], .cst (.int 2147483629)], .cst (.int 32)], .var 1])]⟩
def fdSome (fDraw : Nat) : FD := ⟨3, 6, some 0, [.set 3 (.prim .lst [.var 1]), .set 4 (.pack false []), .fer (.name 5) 1 [.var 2] [.app 4 (.mth .popAt 3 [.call fDraw (some 0) [0, 1] [.var 0, .prim .len [.var 3]]])], .retv 4]⟩
def fdBweb (fDraw fSome : Nat) : FD := ⟨3, 11, some 0, [.set 3 (.comp (.pack true [.call fDraw (some 0) [0, 1] [.var 0, .var 4], .var 4]) (.name 4) 2 [.cst (.int 1), .var 1] [] [4]), .fer (.name 4) 1 [.ite (.prim .gt [.var 1, .cst (.int 1)]) (.var 2) (.cst (.int 0))] [.set 7 (.call fDraw (some 0) [0, 1] [.var 0, .var 1]), .app 3 (.pack true [.var 7, .prim .mod [.prim .int [.prim .add [.prim .add [.var 7, .cst (.int 1)], .call fDraw (some 0) [0, 1] [.var 0, .prim .sub [.var 1, .cst (.int 1)]]]], .var 1]])], .set 5 (.call fSome (some 0) [0, 1, 2] [.var 0, .prim .rgl [.var 1], .var 1]), .set 6 (.pack false []), .fer (.tup [.name 8, .name 9]) 0 [.call fSome (some 0) [0, 1, 2] [.var 0, .var 3, .prim .len [.var 3]]] [.set 10 (.pack true [.prim .ix [.var 5, .var 8], .prim .ix [.var 5, .var 9]]), .app 6 (.ite (.prim .eq [.call fDraw (some 0) [0, 1] [.var 0, .cst (.int 2)], .cst (.int 0)]) (.var 10) (.prim .rev [.var 10]))], .ret (.pack true [.var 1, .prim .tup [.var 6]])]⟩
def fdDweb (fDraw fWeb : Nat) : FD := ⟨1, 3, some 0, [.set 1 (.call fDraw (some 0) [0, 1] [.var 0, .cst (.int 8)]), .ite (.prim .eq [.var 1, .cst (.int 0)]) [.set 2 (.prim .sub [.cst (.int 12), .call fDraw (some 0) [0, 1] [.var 0, .cst (.int 3)]]), .ret (.ite (.prim .gt [.var 2, .cst (.int 11)]) (.call fWeb (some 0) [0, 1, 2] [.var 0, .var 2, .prim .sub [.prim .add [.prim .sub [.cst (.int 20), .var 2], .cst (.int 1)], .call fDraw (some 0) [0, 1] [.var 0, .cst (.int 3)]]]) (.call fWeb (some 0) [0, 1, 2] [.var 0, .var 2, .cst (.int 7)]))] [], .ite (.prim .eq [.var 1, .cst (.int 1)]) [.ret (.call fWeb (some 0) [0, 1, 2] [.var 0, .prim .add [.cst (.int 1), .call fDraw (some 0) [0, 1] [.var 0, .cst (.int 2)]], .call fDraw (some 0) [0, 1] [.var 0, .cst (.int 6)]])] [], .ret (.call fWeb (some 0) [0, 1, 2] [.var 0, .prim .add [.cst (.int 2), .call fDraw (some 0) [0, 1] [.var 0, .cst (.int 5)]], .call fDraw (some 0) [0, 1] [.var 0, .cst (.int 5)]])]⟩
def BagC (a n : Int) (gs ks : List Int) : List Cl := [.v (.int a), .v (.int n), .o (gs.map D.int), .v (.lst (ks.map D.int))]
def BagS (cs : List Cl) : Prop := ∃ (a n : Int) (gs ks : List Int), 0 ≤ a ∧ (∀ g ∈ gs, 0 ≤ g) ∧ ks ≠ [] ∧ ks.length ≤ 64 ∧ (∀ c ∈ ks, 0 ≤ c ∧ c < 2147483647) ∧ cs = BagC a n gs ks
@[simp] theorem ixN40 : ixN 4 0 = some 0 := by decide
@[simp] theorem ixN41 : ixN 4 1 = some 1 := by decide
@[simp] theorem ixN42 : ixN 4 2 = some 2 := by decide
@[simp] theorem ixN43 : ixN 4 3 = some 3 := by decide
@[simp] theorem Ni_d (i : Int) (Q : Int → Prop) : Ni (Sl.val (.int i)).d Q = Q i := propext Iff.rfl
section
variable {P : Nat → Option FD} {Q : Sl × List Sl → Prop} {n : Nat}
theorem bdraw_tail {a nn m : Int} {gs ks : List Int} (ha : 0 ≤ a) (hg : ∀ g ∈ gs, 0 ≤ g) (hk : ks ≠ []) (hk2 : ks.length ≤ 64) (hk3 : ∀ c ∈ ks, 0 ≤ c ∧ c < 2147483647) (hm : 0 < m) (hm2 : m < 2 ^ 64) (q : ∀ st' v, BagS st' → 0 ≤ v → v < m → Q (.val (.int v), [.nst st', .un])) :
    Post (exB (callF P n) (fdBdraw.body.drop 2) [.nst (BagC a nn gs ks), .val (.int m), .un, .un, .un]) (endQ 2 (some 0) Q) := by
  have m0 : m ≠ 0 := by omega
  simp [fdBdraw, BagC]
  (first | refine If.hh (fun h => ?_) (fun h => ?_) | refine If.ha (fun h => ?_) (fun h => ?_) | refine If.ah (fun h => ?_) (fun h => ?_) | refine If.aa (fun h => ?_) (fun h => ?_))
  · simp [m0]
    refine ⟨log_small (by omega), ?_⟩
    exact q _ _ ⟨_, nn, gs, ks, Int.fdiv_nonneg ha (by omega), hg, hk, hk2, hk3, rfl⟩ (fmod_pos _ _ hm).1 (fmod_pos _ _ hm).2
  · simp
    have e1 := fmod_pos nn (ks.length : Int) (by have := List.length_pos_iff.mpr hk; omega)
    obtain ⟨z, hz⟩ := Int.eq_ofNat_of_zero_le e1.1
    rw [hz]
    have hz2 : z < ks.length := by omega
    refine ⟨hk, ?_⟩
    rw [atI_nat', List.getElem?_map, List.getElem?_eq_getElem hz2]
    have hx := hk3 _ (List.getElem_mem hz2)
    generalize ks[z] = x at hx
    have e2 := fmod_pos (x * 48271 + nn * 69621 + 1) 2147483647 (by decide)
    simp
    generalize (x * 48271 + nn * 69621 + 1).fmod 2147483647 = y at e2
    simp [m0]
    refine ⟨mulOk_r (by decide) (by decide), mulOk_r (by decide) (by decide), mulOk_l (by omega) (by omega), mulOk_r (by decide) (by decide), mulOk_r (by decide) (by decide), by decide +kernel, q _ _ ⟨a, nn, gs, ks, ha, hg, hk, hk2, hk3, rfl⟩ (fmod_pos _ _ hm).1 (fmod_pos _ _ hm).2⟩
theorem bdraw_run {i : Nat} (hP : P i = some fdBdraw) {st : List Cl} {m : Int} (hs : BagS st) (hm : 0 < m) (hm2 : m < 2 ^ 64) (q : ∀ st' v, BagS st' → 0 ≤ v → v < m → Q (.val (.int v), [.nst st', .un])) : Post (callF P (n + 1) i [.nst st, .val (.int m)]) Q := by
  obtain ⟨a, nn, gs, ks, ha, hg, hk, hk2, hk3, rfl⟩ := hs
  rw [post_fn hP]
  have tail := fun (a : Int) (gs : List Int) h1 h2 => bdraw_tail (P := P) (n := n) (Q := Q) (a := a) (nn := nn + 1) (gs := gs) (ks := ks) h1 h2 hk hk2 hk3 hm hm2 q
  simp only [fdBdraw, List.drop_succ_cons, List.drop_zero] at tail
  simp [fdBdraw, BagC]
  (first | refine If.hh (fun h => ?_) (fun h => ?_) | refine If.ha (fun h => ?_) (fun h => ?_) | refine If.ah (fun h => ?_) (fun h => ?_) | refine If.aa (fun h => ?_) (fun h => ?_))
  · have h : a = 0 := by simpa using h
    subst h
    simp
    (first | refine If.hh (fun h => ?_) (fun h => ?_) | refine If.ha (fun h => ?_) (fun h => ?_) | refine If.ah (fun h => ?_) (fun h => ?_) | refine If.aa (fun h => ?_) (fun h => ?_))
    · have h : gs ≠ [] := by
        intro z; subst z; simp at h
      simp
      obtain ⟨es, g, rfl⟩ : ∃ es g, gs = es ++ [g] := ⟨gs.dropLast, gs.getLast h, (List.dropLast_concat_getLast h).symm⟩
      refine m_pop (es := es.map D.int) (d := .int g) (by simp) ?_
      simp
      simpa [BagC] using tail g es (hg g (by simp)) (fun x hx => hg x (by simp [hx]))
    · simp
      simpa [BagC] using tail 0 gs (by decide) hg
  · simp
    simpa [BagC] using tail a gs ha hg
theorem bag_run {i : Nat} (hP : P i = some fdBag) {ns : List Int} (hn : ns.length ≤ 63) (q : ∀ st, BagS st → Q (.nst st, [.un])) : Post (callF P (n + 1) i [.val (.lst (ns.map D.int))]) Q := by
  rw [post_fn hP]
  simp [fdBag]
  refine compL_mp ns D.int (fun x => .int (if x < 0 then -x else x)) (fun l => ∃ c, l = [.val (.lst (ns.map D.int)), .un, .un, c]) rfl ⟨_, rfl⟩ (by omega) (fun x l hx hI => ?_) (fun l hI => ?_)
  · obtain ⟨c, rfl⟩ := hI
    simp [bindT]
  obtain ⟨c, rfl⟩ := hI
  obtain ⟨cs, hcs, hl, h0, hp⟩ : ∃ cs : List Int, (ns.map fun x => D.int (if x < 0 then -x else x)) ++ [D.int 7] = cs.map D.int ∧ cs.length ≤ 64 ∧ cs ≠ [] ∧ ∀ c ∈ cs, 0 ≤ c := by
    refine ⟨(ns.map fun x => if x < 0 then -x else x) ++ [7], by simp, by simp; omega, by simp, fun c hc => ?_⟩
    rcases List.mem_append.mp hc with hc | hc
    · obtain ⟨x, _, rfl⟩ := List.mem_map.mp hc
      split <;> omega
    · simp at hc; omega
  simp [hcs]
  refine ⟨by omega, ?_⟩
  obtain ⟨c0, cr, rfl⟩ : ∃ c0 cr, cs = c0 :: cr := by cases cs with
    | nil => exact absurd rfl h0
    | cons a b => exact ⟨a, b, rfl⟩
  have fin : ∀ (gs : List Int) (c4 s1 : Sl), (s1 = .own ((c0 :: cr).map D.int) ∨ s1 = .val (.lst ((c0 :: cr).map D.int))) → (∀ g ∈ gs, 0 ≤ g) → Post (exB (callF P n) (fdBag.body.drop 3) [.val (.lst (ns.map D.int)), s1, .own (gs.map D.int), c4]) (endQ 1 none Q) := fun gs c4 s1 h1 hg => by
    have key : Post (compL (bindT (.name 3)) (evTs (callF P n) []) (evX (callF P n) (.prim .mod [.prim .int [.var 3], .cst (.int 2147483647)])) [3] ((c0 :: cr).map D.int) [] [.val (.lst (ns.map D.int)), .val (.lst ((c0 :: cr).map D.int)), .un, .un]) fun p => p.1.length ≤ 16777216 ∧ ∃ xs : List Int, p.1 = xs.map D.int ∧ xs ≠ [] ∧ xs.length ≤ 64 ∧ (∀ c ∈ xs, 0 ≤ c ∧ c < 2147483647) := by
      refine compL_mp (c0 :: cr) D.int (fun x => .int (x.fmod 2147483647)) (fun l => ∃ c, l = [.val (.lst (ns.map D.int)), .val (.lst ((c0 :: cr).map D.int)), .un, c]) (by simp) ⟨_, rfl⟩ (by omega) (fun x l hx hI => ?_) (fun l hI => ?_)
      · obtain ⟨c, rfl⟩ := hI
        simp [bindT]
      refine ⟨by simp at hl ⊢; omega, (c0 :: cr).map (fun x => x.fmod 2147483647), by simp, by simp, by simpa using hl, fun c hc => ?_⟩
      obtain ⟨x, _, rfl⟩ := List.mem_map.mp hc
      exact fmod_pos _ _ (by decide)
    simp only [List.map_cons] at key
    rcases h1 with rfl | rfl
    all_goals
      simp [fdBag]
      refine key.imp fun p hp => ?_
      obtain ⟨h1, xs, h2, h3, h4, h5⟩ := hp
      rw [h2]
      exact q _ ⟨0, 0, gs, xs, by decide, hg, h3, h4, h5, rfl⟩
  simp only [fdBag, List.drop_succ_cons, List.drop_zero, List.map_cons] at fin
  have e0 : atI (D.int c0 :: cr.map D.int) 0 = some (.int c0) := by
    simp
  simp [e0]
  (first | refine If.hh (fun h => ?_) (fun h => ?_) | refine If.ha (fun h => ?_) (fun h => ?_) | refine If.ah (fun h => ?_) (fun h => ?_) | refine If.aa (fun h => ?_) (fun h => ?_))
  · simp
    refine (compL_fm (c0 :: cr) D.int (fun c => decide (1000000000000000000 ≤ c)) (fun c => .int (c.fdiv 2)) (fun l => ∃ c, l = [.val (.lst (ns.map D.int)), .val (.lst ((c0 :: cr).map D.int)), .own [], c]) (by simp) ⟨.un, by simp⟩ (by omega) (fun x l hx hI => ?_) (fun l hI => ?_))
    · obtain ⟨c, rfl⟩ := hI
      simp [bindT]
      exact fun _ => by decide +kernel
    · obtain ⟨c, rfl⟩ := hI
      simp
      have := fin (((c0 :: cr).filter fun c => decide (1000000000000000000 ≤ c)).map fun c => c.fdiv 2).reverse c _ (.inr rfl) (fun g hg => by
        rw [List.mem_reverse] at hg
        obtain ⟨y, hy, rfl⟩ := List.mem_map.mp hg
        exact Int.fdiv_nonneg (hp y (List.mem_filter.mp hy).1) (by decide))
      rw [List.map_reverse, List.map_map] at this
      simpa [Function.comp_def] using this
  · simpa using fin [] .un _ (.inl rfl) (by simp)
theorem bsome_run {i k : Nat} (hP : P i = some (fdSome k)) (hk : P k = some fdBdraw) {st : List Cl} {ds : List D} {m : Nat} (hs : BagS st) (hm : m ≤ ds.length) (hl : ds.length ≤ 16777215) (q : ∀ st' es rest, BagS st' → (es ++ rest).Perm ds → es.length = m → Q (.own es, [.nst st', .un, .un])) : Post (callF P (n + 2) i [.nst st, .val (.lst ds), .val (.int m)]) Q := by
  rw [post_fn hP]
  simp [fdSome]
  refine ⟨rgOk_ok (by omega) (by omega) (by omega) (by omega), ?_⟩
  have e2 := rgD_length 0 (m : Int)
  generalize rgD 0 (m : Int) = xs at e2
  refine forL_inv (fun rest l => ∃ st left made c5, BagS st ∧ made.length + rest.length = m ∧ (made ++ left).Perm ds ∧ l = [.nst st, .val (.lst ds), .val (.int m), .own left, .own made, c5]) ⟨st, ds, [], .un, hs, by simp; omega, by simp, rfl⟩ (fun d rest l hh => ?_) (fun l hh => ?_)
  · obtain ⟨st, left, made, c5, hs, h1, h3, rfl⟩ := hh
    simp [bindT]
    simp at h1
    have hle := h3.length_eq
    rw [List.length_append] at hle
    refine bdraw_run hk hs (by omega) (by omega) fun st' v hs' v0 vm => ?_
    simp
    obtain ⟨z, rfl⟩ := Int.eq_ofNat_of_zero_le v0
    have hz : z < left.length := by omega
    refine m_popAt hz ?_
    simp
    refine ⟨by omega, st', hs', left.eraseIdx z, made ++ [left[z]], by simp; omega, ?_, by simp⟩
    rw [List.append_assoc]
    exact (List.Perm.append_left made (cons_erase hz)).trans h3
  · obtain ⟨st, left, made, c5, hs, h1, h3, rfl⟩ := hh
    simp at h1
    simp
    exact q _ _ _ hs h3 (by omega)
end
end DL

set_option Elab.async false
set_option linter.all false
set_option maxRecDepth 100000
set_option maxHeartbeats 4000000
set_option exponentiation.threshold 20000
namespace DL
open PySem PySem.Spec PyProof.Rows L2 PLn

/-! ## webs as data -/
abbrev pr2 (p : Nat × Nat) : D := .tup [.int (p.1 : Nat), .int (p.2 : Nat)]
def webD (n : Nat) (ps : List (Nat × Nat)) : D := .tup [.int (n : Nat), .tup (ps.map pr2)]
structure WebOk (n : Nat) (ps : List (Nat × Nat)) : Prop where
  lo : 1 ≤ n
  hi : n ≤ 12
  len : ps.length ≤ 20
  a : ∀ p ∈ ps, p.1 < n
  b : ∀ p ∈ ps, p.2 < n
  ne : ∀ p ∈ ps, p.1 ≠ p.2
abbrev PipeN (n : Nat) (p : Nat × Nat) : Prop := p.1 < n ∧ p.2 < n ∧ p.1 ≠ p.2
theorem perm_back {α : Type} {f : α → D} (g : D → α) (hg : ∀ x, g (f x) = x) {es : List D} {L : List α} (h : es.Perm (L.map f)) : ∃ L' : List α, es = L'.map f ∧ L'.Perm L := by
  refine ⟨es.map g, ?_, ?_⟩
  · rw [List.map_map]
    have : es.map (f ∘ g) = es.map id := List.map_congr_left fun d hd => by
      obtain ⟨x, _, rfl⟩ := List.mem_map.mp (h.mem_iff.mp hd)
      show f (g (f x)) = f x
      rw [hg]
    rw [this, List.map_id]
  · have := h.map g
    rw [List.map_map] at this
    have e : L.map (g ∘ f) = L.map id := List.map_congr_left fun x _ => hg x
    rw [e, List.map_id] at this
    exact this
def natOf : D → Nat
  | .int i => i.toNat
  | _ => 0
def prOf2 : D → Nat × Nat
  | .tup [.int a, .int b] => (a.toNat, b.toNat)
  | _ => (0, 0)
theorem rgD_nat (n : Nat) : rgD 0 (n : Int) = (List.range n).map fun j => D.int (j : Nat) := by simp [rgD]
def PipesD (n : Nat) (ds : List D) : Prop := ∀ d ∈ ds, ∃ p, d = pr2 p ∧ PipeN n p
theorem PipesD.nil {n : Nat} : PipesD n [] := fun d h => by cases h
theorem PipesD.snoc {n : Nat} {ds : List D} (h : PipesD n ds) {a b : Nat} (ha : a < n) (hb : b < n) (hn : a ≠ b) : PipesD n (ds ++ [.tup [.int a, .int b]]) := fun d hd => by
  rcases List.mem_append.mp hd with hd | hd
  · exact h d hd
  · have : d = .tup [.int a, .int b] := by simpa using hd
    exact ⟨(a, b), this, ha, hb, hn⟩
theorem prOf2_pr (p : Nat × Nat) : prOf2 (pr2 p) = p := by simp [prOf2]
theorem PipesD.web {n : Nat} {ds : List D} (h : PipesD n ds) (h1 : 1 ≤ n) (h2 : n ≤ 12) (hl : ds.length ≤ 20) : ∃ ps, ds = ps.map pr2 ∧ WebOk n ps := by
  refine ⟨ds.map prOf2, ?_, h1, h2, by simpa using hl, fun p hp => ?_, fun p hp => ?_, fun p hp => ?_⟩
  · rw [List.map_map]
    have : ds.map (pr2 ∘ prOf2) = ds.map id := List.map_congr_left fun d hd => by
      obtain ⟨p, rfl, _⟩ := h d hd
      show pr2 (prOf2 (pr2 p)) = pr2 p
      rw [prOf2_pr]
    rw [this, List.map_id]
  all_goals
    obtain ⟨d, hd, rfl⟩ := List.mem_map.mp hp
    obtain ⟨p, rfl, q⟩ := h d hd
    rw [prOf2_pr]
  · exact q.1
  · exact q.2.1
  · exact q.2.2
/-- an invariant: a bag, and what else may change -/
def InvB {β : Type} (F : List Cl → β → Loc) (G : β → Prop) (l : Loc) : Prop := ∃ st b, BagS st ∧ G b ∧ l = F st b
def LoopB {β : Type} (F : List Cl → List D → β → Loc) (n tot : Nat) (rest : List D) (l : Loc) : Prop := ∃ st made b, BagS st ∧ PipesD n made ∧ PipesD n rest ∧ made.length + rest.length = tot ∧ l = F st made b
def LoopC {β : Type} (F : List Cl → List D → β → Loc) (n tot : Nat) (rest : List D) (l : Loc) : Prop := ∃ st made b, BagS st ∧ PipesD n made ∧ made.length + rest.length = tot ∧ l = F st made b
def PairAt (n i : Nat) (y : D) : Prop := ∃ a : Nat, a < i + 1 ∧ i + 1 < n ∧ y = .tup [.int (a : Nat), .int ((i + 1 : Nat) : Int)]
section
variable {P : Nat → Option FD} {Q : Sl × List Sl → Prop} {k : Nat}
theorem bweb_run {i dr sm : Nat} (hP : P i = some (fdBweb dr sm)) (hd : P dr = some fdBdraw) (hs : P sm = some (fdSome dr)) {st : List Cl} {n m : Nat} (hS : BagS st) (h1 : 1 ≤ n) (h2 : n ≤ 12) (h3 : n - 1 + m ≤ 20) (q : ∀ st' ps, BagS st' → WebOk n ps → Q (.val (webD n ps), [.nst st', .un, .un])) :
    Post (callF P (k + 3) i [.nst st, .val (.int (n : Nat)), .val (.int (m : Nat))]) Q := by
  rw [post_fn hP]
  simp [fdBweb]
  refine ⟨rgOk_ok (by omega) (by omega) (by omega) (by omega), ?_⟩
  have g1 := fun i d => @rgD_get 1 (n : Int) i d
  have g2 := rgD_length 1 (n : Int)
  generalize rgD 1 (n : Int) = zs at g1 g2
  refine compL_map (InvB (fun st c => [.nst st, .val (.int (n : Nat)), .val (.int (m : Nat)), .un, c, .un, .un, .un, .un, .un, .un]) fun _ : Sl => True) (PairAt n) ⟨st, .un, hS, trivial, rfl⟩ (by omega) (fun i d l hi hI => ?_) (fun ys l hl hy hI => ?_)
  · obtain ⟨st, c, hS, _, rfl⟩ := hI
    obtain ⟨rfl, hi2⟩ := g1 _ _ hi
    simp [bindT]
    refine bdraw_run hd hS (by omega) (by omega) fun st' v hS' v0 vm => ?_
    obtain ⟨z, rfl⟩ := Int.eq_ofNat_of_zero_le v0
    simp
    exact ⟨⟨z, by omega, by omega, by rw [show (1 : Int) + (i : Nat) = ((i + 1 : Nat) : Int) by omega]⟩, st', _, hS', trivial, rfl⟩
  obtain ⟨st, c, hS, _, rfl⟩ := hI
  have hp : PipesD n ys := fun d hd => by
    obtain ⟨i, hi, rfl⟩ := List.getElem_of_mem hd
    obtain ⟨a, ha, hb, e⟩ := hy i _ (List.getElem?_eq_getElem hi)
    exact ⟨(a, i + 1), e, by show a < n; omega, hb, by show a ≠ i + 1; omega⟩
  have hl1 : ys.length = n - 1 := by omega
  clear hy hl g1 g2 zs
  simp
  -- what follows the more pipes
  have rest : ∀ (st : List Cl) (ds : List D) (c4 c7 : Sl), BagS st → PipesD n ds → ds.length ≤ 20 → Post (exB (callF P (k + 2)) ((fdBweb dr sm).body.drop 2) [.nst st, .val (.int (n : Nat)), .val (.int (m : Nat)), .own ds, c4, .un, .un, c7, .un, .un, .un]) (endQ 3 (some 0) Q) := fun st ds c4 c7 hS hp hl => by
    simp [fdBweb]
    refine ⟨rgOk_ok (by omega) (by omega) (by omega) (by omega), ?_⟩
    refine bsome_run hs hd hS (ds := rgD 0 (n : Int)) (by simp [rgD]) (by simp [rgD]; omega) fun st' es re hS' hpe hle => ?_
    have hre : re = [] := by
      have := hpe.length_eq
      rw [List.length_append, rgD_length] at this
      exact List.eq_nil_of_length_eq_zero (by omega)
    subst hre
    rw [List.append_nil, rgD_nat] at hpe
    obtain ⟨σ, rfl, hσ⟩ := perm_back (f := fun j : Nat => D.int (j : Nat)) natOf (fun x => by simp [natOf]) hpe
    have hσl : σ.length = n := by simpa using hle
    have hσn : σ.Nodup := hσ.nodup_iff.mpr List.nodup_range
    have hσm : ∀ x ∈ σ, x < n := fun x hx => List.mem_range.mp (hσ.mem_iff.mp hx)
    clear hpe hle
    generalize hes : σ.map (fun j : Nat => D.int (j : Nat)) = es
    have gs : ∀ a : Nat, a < n → ∃ b : Nat, σ[a]? = some b ∧ b < n ∧ atI es (a : Int) = some (.int (b : Nat)) := fun a ha => by
      refine ⟨σ[a]'(by omega), List.getElem?_eq_getElem _, hσm _ (List.getElem_mem _), ?_⟩
      rw [atI_nat', ← hes, List.getElem?_map, List.getElem?_eq_getElem (by omega)]
      rfl
    simp
    refine bsome_run hs hd hS' (ds := ds) (Nat.le_refl _) (by omega) fun st2 fs re hS2 hpf hfl => ?_
    have hre : re = [] := by
      have := hpf.length_eq
      rw [List.length_append] at this
      exact List.eq_nil_of_length_eq_zero (by omega)
    subst hre
    rw [List.append_nil] at hpf
    have hpF : PipesD n fs := fun d hd => hp d (hpf.mem_iff.mp hd)
    simp
    clear hpf
    refine forL_inv (LoopB (fun st made (b : Sl × Sl × Sl) => [.nst st, .val (.int (n : Nat)), .val (.int (m : Nat)), .val (.lst ds), c4, .own es, .own made, c7, b.1, b.2.1, b.2.2]) n fs.length) ⟨st2, [], (.un, .un, .un), hS2, PipesD.nil, hpF, by simp, rfl⟩ (fun d rest l hh => ?_) (fun l hh => ?_)
    · obtain ⟨st, made, b, hS, hm, hr, hlen, rfl⟩ := hh
      obtain ⟨p, rfl, p1, p2, p3⟩ := hr d (by simp)
      have hr' : PipesD n rest := fun d hd => hr d (List.mem_cons_of_mem _ hd)
      obtain ⟨u, hu1, hu2, hu3⟩ := gs _ p1
      obtain ⟨v, hv1, hv2, hv3⟩ := gs _ p2
      have huv : u ≠ v := fun z => by
        subst z
        have h1 := (List.getElem?_eq_some_iff.mp hu1)
        have h2 := (List.getElem?_eq_some_iff.mp hv1)
        obtain ⟨h1a, h1b⟩ := h1
        obtain ⟨h2a, h2b⟩ := h2
        exact p3 ((List.getElem_inj hσn).mp (h1b.trans h2b.symm))
      simp at hlen
      simp [bindT, bindT.bindTs, hu3, hv3]
      refine bdraw_run hd hS (by omega) (by omega) fun st' w hS' w0 wm => ?_
      simp
      (first | refine If.hh (fun hw => ?_) (fun hw => ?_) | refine If.ha (fun hw => ?_) (fun hw => ?_) | refine If.ah (fun hw => ?_) (fun hw => ?_) | refine If.aa (fun hw => ?_) (fun hw => ?_))
      · simp
        exact ⟨by omega, st', _, (_, _, _), hS', hm.snoc hu2 hv2 huv, hr', by simp; omega, rfl⟩
      · simp
        exact ⟨by omega, st', _, (_, _, _), hS', hm.snoc hv2 hu2 (Ne.symm huv), hr', by simp; omega, rfl⟩
    · obtain ⟨st, made, b, hS, hm, _, hlen, rfl⟩ := hh
      simp at hlen
      simp
      obtain ⟨ps, rfl, hw⟩ := hm.web h1 h2 (by omega)
      exact q _ ps hS hw
  simp only [fdBweb, List.drop_succ_cons, List.drop_zero] at rest
  generalize hR : ([S.set 5 _, _, _, _] : List S) = R at rest ⊢
  -- the more pipes
  have core : ∀ (mm : Nat), n - 1 + mm ≤ 20 → (mm = 0 ∨ 1 < n) → Post (forL (bindT (.name 4)) (exB (callF P (k + 2)) [.set 7 (.call dr (some 0) [0, 1] [.var 0, .var 1]), .app 3 (.pack true [.var 7, .prim .mod [.prim .int [.prim .add [.prim .add [.var 7, .cst (.int 1)], .call dr (some 0) [0, 1] [.var 0, .prim .sub [.var 1, .cst (.int 1)]]]], .var 1]])]) (rgD 0 (mm : Int)) [.nst st, .val (.int (n : Nat)), .val (.int (m : Nat)), .own ys, c, .un, .un, .un, .un, .un, .un])
      (seqQ (callF P (k + 2)) R (endQ 3 (some 0) Q)) := fun mm hmm hm1 => by
    rcases hm1 with z | hm1
    · subst z
      have z : rgD 0 ((0 : Nat) : Int) = [] := by simp [rgD]
      rw [z]
      simp [forL]
      exact rest _ _ _ _ hS hp (by omega)
    refine forL_inv (LoopC (fun st made (b : Sl × Sl) => [.nst st, .val (.int (n : Nat)), .val (.int (m : Nat)), .own made, b.1, .un, .un, b.2, .un, .un, .un]) n (n - 1 + mm)) ⟨st, ys, (c, .un), hS, hp, by rw [rgD_length]; omega, rfl⟩ (fun d rest l hh => ?_) (fun l hh => ?_)
    · obtain ⟨st, made, b, hS, hm, hlen, rfl⟩ := hh
      simp at hlen
      simp [bindT]
      refine bdraw_run hd hS (by omega) (by omega) fun st' v hS' v0 vm => ?_
      obtain ⟨z, rfl⟩ := Int.eq_ofNat_of_zero_le v0
      simp
      refine bdraw_run hd hS' (by omega) (by omega) fun st2 w hS2 w0 wm => ?_
      obtain ⟨y, rfl⟩ := Int.eq_ofNat_of_zero_le w0
      simp
      have em : ((z : Int) + 1 + (y : Int)).fmod (n : Int) = (((z + 1 + y) % n : Nat) : Int) := by
        rw [Int.fmod_eq_emod_of_nonneg _ (by omega)]
        push_cast
        rfl
      rw [em]
      have e2 := Nat.mod_lt (z + 1 + y) (show 0 < n by omega)
      have e3 : z ≠ (z + 1 + y) % n := by
        rcases Nat.lt_or_ge (z + 1 + y) n with h | h
        · rw [Nat.mod_eq_of_lt h]; omega
        · rw [Nat.mod_eq_sub_mod h, Nat.mod_eq_of_lt (by omega)]; omega
      exact ⟨by omega, by omega, st2, _, (_, _), hS2, hm.snoc (by omega) e2 e3, by simp; omega, rfl⟩
    · obtain ⟨st, made, b, hS, hm, hlen, rfl⟩ := hh
      simp at hlen
      simp
      exact rest _ _ _ _ hS hm (by omega)
  (first | refine If.hh (fun h => ?_) (fun h => ?_) | refine If.ha (fun h => ?_) (fun h => ?_) | refine If.ah (fun h => ?_) (fun h => ?_) | refine If.aa (fun h => ?_) (fun h => ?_))
  · have h : (1 : Int) < n := by simpa using h
    have h : 1 < n := by omega
    simp
    exact ⟨rgOk_ok (by omega) (by omega) (by omega) (by omega), core m h3 (.inr h)⟩
  · simp
    exact ⟨rgOk_ok (by omega) (by omega) (by omega) (by omega), core 0 (by omega) (.inl rfl)⟩
theorem dweb_run {i dr w sm : Nat} (hP : P i = some (fdDweb dr w)) (hw : P w = some (fdBweb dr sm)) (hd : P dr = some fdBdraw) (hs : P sm = some (fdSome dr)) {st : List Cl} (hS : BagS st) (q : ∀ st' n ps, BagS st' → WebOk n ps → Q (.val (webD n ps), [.nst st'])) :
    Post (callF P (k + 4) i [.nst st]) Q := by
  rw [post_fn hP]
  simp [fdDweb]
  refine bdraw_run hd hS (by omega) (by omega) fun st' v hS' v0 vm => ?_
  obtain ⟨v, rfl⟩ := Int.eq_ofNat_of_zero_le v0
  simp
  -- a web of n places, m more pipes
  have web : ∀ (n m : Nat) (st : List Cl) (Q' : Sl × List Sl → Prop), BagS st → 1 ≤ n → n ≤ 12 → n - 1 + m ≤ 20 → (∀ st' ps, BagS st' → WebOk n ps → Q' (.val (webD n ps), [.nst st', .un, .un])) → ∀ a b : Int, a = n → b = m → Post (callF P (k + 3) w [.nst st, .val (.int a), .val (.int b)]) Q' := fun n m st Q' h0 h1 h2 h3 hq a b ea eb => by
    subst ea; subst eb
    exact bweb_run hw hd hs h0 h1 h2 h3 hq
  (first | refine If.hh (fun h => ?_) (fun h => ?_) | refine If.ha (fun h => ?_) (fun h => ?_) | refine If.ah (fun h => ?_) (fun h => ?_) | refine If.aa (fun h => ?_) (fun h => ?_))
  · simp
    refine bdraw_run hd hS' (by omega) (by omega) fun st2 u hS2 u0 um => ?_
    obtain ⟨u, rfl⟩ := Int.eq_ofNat_of_zero_le u0
    simp
    (first | refine If.hh (fun h2 => ?_) (fun h2 => ?_) | refine If.ha (fun h2 => ?_) (fun h2 => ?_) | refine If.ah (fun h2 => ?_) (fun h2 => ?_) | refine If.aa (fun h2 => ?_) (fun h2 => ?_))
    · have h2 : u = 0 := by
        have : 11 < (12 : Int) - u := by simpa using h2
        omega
      subst h2
      simp
      refine bdraw_run hd hS2 (by omega) (by omega) fun st3 x hS3 x0 xm => ?_
      obtain ⟨x, rfl⟩ := Int.eq_ofNat_of_zero_le x0
      simp
      refine web 12 (9 - x) _ _ hS3 (by omega) (by omega) (by omega) (fun st4 ps hS4 hw => ?_) _ _ (by omega) (by omega)
      simp
      exact q _ _ _ hS4 hw
    · have h2 : 1 ≤ u := by
        have : ¬ 11 < (12 : Int) - u := by simpa using h2
        omega
      simp
      refine web (12 - u) 7 _ _ hS2 (by omega) (by omega) (by omega) (fun st4 ps hS4 hw => ?_) _ _ (by omega) rfl
      simp
      exact q _ _ _ hS4 hw
  · simp
    (first | refine If.hh (fun h => ?_) (fun h => ?_) | refine If.ha (fun h => ?_) (fun h => ?_) | refine If.ah (fun h => ?_) (fun h => ?_) | refine If.aa (fun h => ?_) (fun h => ?_))
    · simp
      refine bdraw_run hd hS' (by omega) (by omega) fun st2 u hS2 u0 um => ?_
      obtain ⟨u, rfl⟩ := Int.eq_ofNat_of_zero_le u0
      simp
      refine bdraw_run hd hS2 (by omega) (by omega) fun st3 x hS3 x0 xm => ?_
      obtain ⟨x, rfl⟩ := Int.eq_ofNat_of_zero_le x0
      simp
      refine web (1 + u) x _ _ hS3 (by omega) (by omega) (by omega) (fun st4 ps hS4 hw => ?_) _ _ (by omega) rfl
      simp
      exact q _ _ _ hS4 hw
    · simp
      refine bdraw_run hd hS' (by omega) (by omega) fun st2 u hS2 u0 um => ?_
      obtain ⟨u, rfl⟩ := Int.eq_ofNat_of_zero_le u0
      simp
      refine bdraw_run hd hS2 (by omega) (by omega) fun st3 x hS3 x0 xm => ?_
      obtain ⟨x, rfl⟩ := Int.eq_ofNat_of_zero_le x0
      simp
      refine web (2 + u) x _ _ hS3 (by omega) (by omega) (by omega) (fun st4 ps hS4 hw => ?_) _ _ (by omega) rfl
      simp
      exact q _ _ _ hS4 hw
end
end DL

set_option Elab.async false
set_option linter.all false
set_option maxRecDepth 100000
set_option maxHeartbeats 4000000
namespace DL
open PySem PySem.Spec PyProof.Rows L2 PLn PySem.W

/-! ## what sorted gives does not hang on the order of the items -/
mutual
theorem toks_inj : ∀ (x y : PyData), alike x y = true → ∀ l m, keyToks x ++ l = keyToks y ++ m → x = y ∧ l = m
  | .none, y, h, l, m, e => by
    cases y <;> first | (simp [alike] at h; done) | skip
    exact ⟨rfl, by simpa [keyToks] using e⟩
  | .bool a, y, h, l, m, e => by
    cases y <;> first | (simp [alike] at h; done) | skip
    rename_i b
    simp only [keyToks, List.cons_append, List.nil_append, List.cons.injEq, Sum.inl.injEq] at e
    refine ⟨?_, e.2⟩
    have := e.1
    cases a <;> cases b <;> simp at this <;> rfl
  | .int a, y, h, l, m, e => by
    cases y <;> first | (simp [alike] at h; done) | skip
    simp only [keyToks, List.cons_append, List.nil_append, List.cons.injEq, Sum.inl.injEq] at e
    exact ⟨by rw [e.1], e.2⟩
  | .str a, y, h, l, m, e => by
    cases y <;> first | (simp [alike] at h; done) | skip
    simp only [keyToks, List.cons_append, List.nil_append, List.cons.injEq, Sum.inr.injEq] at e
    exact ⟨by rw [str_of_cps e.1], e.2⟩
  | .list xs, y, h, l, m, e => by
    cases y <;> first | (simp [alike] at h; done) | skip
    rename_i ys
    rw [alike] at h
    rw [keyToks, keyToks] at e
    obtain ⟨h1, h2⟩ := toksAll_inj xs ys h l m e
    exact ⟨by rw [h1], h2⟩
  | .tuple xs, y, h, l, m, e => by
    cases y <;> first | (simp [alike] at h; done) | skip
    rename_i ys
    rw [alike] at h
    rw [keyToks, keyToks] at e
    obtain ⟨h1, h2⟩ := toksAll_inj xs ys h l m e
    exact ⟨by rw [h1], h2⟩
  | .dict _, y, h, l, m, e => by cases y <;> simp [alike] at h
theorem toksAll_inj : ∀ (xs ys : List PyData), alikeAll xs ys = true → ∀ l m, keyToksAll xs ++ l = keyToksAll ys ++ m → xs = ys ∧ l = m
  | [], [], h, l, m, e => ⟨rfl, by simpa [keyToksAll] using e⟩
  | [], y :: ys, h, l, m, e => by simp [keyToksAll] at e
  | x :: xs, [], h, l, m, e => by simp [keyToksAll] at e
  | x :: xs, y :: ys, h, l, m, e => by
    rw [alikeAll, Bool.and_eq_true] at h
    rw [keyToksAll, keyToksAll, List.cons_append, List.cons_append, List.cons.injEq, List.append_assoc, List.append_assoc] at e
    obtain ⟨h1, h2⟩ := toks_inj x y h.1 _ _ e.2
    obtain ⟨h3, h4⟩ := toksAll_inj xs ys h.2 l m h2
    exact ⟨by rw [h1, h3], h4⟩
end
mutual
theorem toPy_inj : ∀ (d e : D), toPy d = toPy e → d = e
  | .non, e, h => by cases e <;> first | rfl | (simp [toPy] at h)
  | .bl b, e, h => by cases e <;> first | (simp [toPy] at h; done) | (simp [toPy] at h; rw [h])
  | .int b, e, h => by cases e <;> first | (simp [toPy] at h; done) | (simp [toPy] at h; rw [h])
  | .str b, e, h => by cases e <;> first | (simp [toPy] at h; done) | (simp [toPy] at h; rw [h])
  | .tup ds, e, h => by
    cases e <;> first | (simp [toPy] at h; done) | skip
    simp only [toPy, PyData.tuple.injEq] at h
    rw [toPyL_inj ds _ h]
  | .lst ds, e, h => by
    cases e <;> first | (simp [toPy] at h; done) | skip
    simp only [toPy, PyData.list.injEq] at h
    rw [toPyL_inj ds _ h]
theorem toPyL_inj : ∀ (ds es : List D), toPyL ds = toPyL es → ds = es
  | [], [], _ => rfl
  | [], e :: es, h => by simp [toPyL] at h
  | d :: ds, [], h => by simp [toPyL] at h
  | d :: ds, e :: es, h => by
    simp only [toPyL, List.cons.injEq] at h
    rw [toPy_inj d e h.1, toPyL_inj ds es h.2]
end
abbrev leD (a b : D) : Bool := dataLe false toPy a b
theorem leD_eq (a b : D) : leD a b = !dataLt (toPy b) (toPy a) := rfl
theorem leD_trans (a b c : D) (h1 : leD a b = true) (h2 : leD b c = true) : leD a c = true := by
  rw [leD_eq, Bool.not_eq_true'] at *
  cases e : dataLt (toPy c) (toPy a) with
  | false => rfl
  | true =>
    rcases lex_negTrans _ (keyToks (toPy b)) _ e with q | q
    · exact absurd h2 (by unfold dataLt; rw [q]; simp)
    · exact absurd h1 (by unfold dataLt; rw [q]; simp)
theorem leD_total (a b : D) : (leD a b || leD b a) = true := by
  rw [leD_eq, leD_eq]
  cases e : dataLt (toPy b) (toPy a) with
  | false => rfl
  | true =>
    cases e2 : dataLt (toPy a) (toPy b) with
    | false => rfl
    | true =>
      have := lex_trans _ _ _ e e2
      rw [lex_irrefl] at this
      cases this
theorem leD_anti {a b : D} (ha : alike (toPy a) (toPy b) = true) (h1 : leD a b = true) (h2 : leD b a = true) : a = b := by
  rw [leD_eq, Bool.not_eq_true'] at *
  have := lex_total _ _ h1 h2
  exact toPy_inj _ _ (toks_inj _ _ ha [] [] (by rw [List.append_nil, List.append_nil]; exact this.symm)).1
theorem alike_of {xs : List D} (h : srtOk xs = true) {a b : D} (ha : a ∈ xs) (hb : b ∈ xs) : alike (toPy a) (toPy b) = true := by
  unfold srtOk alikeD at h
  simp only [Bool.and_eq_true, List.all_eq_true] at h
  exact h.1.1 a ha b hb
theorem srtD_pw (xs : List D) : (srtD xs).Pairwise fun a b => leD a b = true := List.pairwise_mergeSort leD_trans leD_total xs
theorem srtD_perm (xs : List D) : (srtD xs).Perm xs := List.mergeSort_perm xs _
/-- sorted rows of the same items are the same -/
theorem srt_uniq {xs ys zs : List D} (h : srtOk zs = true) (hx : xs.Perm zs) (hy : ys.Perm zs) (px : xs.Pairwise fun a b => leD a b = true) (py : ys.Pairwise fun a b => leD a b = true) : xs = ys := by
  refine List.Perm.eq_of_pairwise (le := fun a b => leD a b = true) (fun a b ha hb h1 h2 => leD_anti (alike_of h (hx.mem_iff.mp ha) (hy.mem_iff.mp hb)) h1 h2) px py (hx.trans hy.symm)
theorem srt_perm {xs ys : List D} (h : srtOk ys = true) (hp : xs.Perm ys) : srtD xs = srtD ys := srt_uniq h ((srtD_perm xs).trans hp) (srtD_perm ys) (srtD_pw xs) (srtD_pw ys)
theorem srt_self {xs : List D} (h : srtOk xs = true) (px : xs.Pairwise fun a b => leD a b = true) : srtD xs = xs := srt_uniq h (srtD_perm xs) (List.Perm.refl _) (srtD_pw xs) px
end DL

set_option linter.all false
set_option maxRecDepth 100000
namespace Rg
/-! ## webs: steps, ways -/
abbrev Pipe := Nat × Nat
abbrev St := Nat × Int
/-- steps from h: pipe, turn, the place there -/
def outsF (h : Nat) : Nat → List Pipe → List (Nat × Int × Nat)
  | _, [] => []
  | k, p :: ps => (if p.1 = h then [(k, 1, p.2)] else []) ++ ((if p.2 = h then [(k, -1, p.1)] else []) ++ outsF h (k + 1) ps)
abbrev outs (ps : List Pipe) (h : Nat) := outsF h 0 ps
theorem mem_outsF {h j x : Nat} {t : Int} : ∀ {ps : List Pipe} {k : Nat}, (j, t, x) ∈ outsF h k ps ↔ ∃ i p, j = k + i ∧ ps[i]? = some p ∧ ((t = 1 ∧ p.1 = h ∧ p.2 = x) ∨ (t = -1 ∧ p.2 = h ∧ p.1 = x))
  | [], k => by simp [outsF]
  | p :: ps, k => by
    rw [outsF, List.mem_append, List.mem_append, mem_outsF]
    constructor
    · rintro (q | q | ⟨i, r, e, e2, q⟩)
      · split at q
        · simp at q
          exact ⟨0, p, by omega, rfl, .inl ⟨by omega, by assumption, by omega⟩⟩
        · cases q
      · split at q
        · simp at q
          exact ⟨0, p, by omega, rfl, .inr ⟨by omega, by assumption, by omega⟩⟩
        · cases q
      · exact ⟨i + 1, r, by omega, by simpa using e2, q⟩
    · rintro ⟨i, r, e, e2, q⟩
      cases i with
      | zero =>
        simp at e2
        subst e2
        rcases q with ⟨q1, q2, q3⟩ | ⟨q1, q2, q3⟩
        · refine .inl ?_
          rw [if_pos q2]; simp; exact ⟨by omega, by omega, by omega⟩
        · refine .inr (.inl ?_)
          rw [if_pos q2]; simp; exact ⟨by omega, by omega, by omega⟩
      | succ i => exact .inr (.inr ⟨i, r, by omega, by simpa using e2, q⟩)
/-- step (j, t) leads from a to b -/
def Stp (ps : List Pipe) (s : St) (a b : Nat) : Prop := ∃ p, ps[s.1]? = some p ∧ ((s.2 = 1 ∧ p.1 = a ∧ p.2 = b) ∨ (s.2 = -1 ∧ p.2 = a ∧ p.1 = b))
theorem mem_outs {ps : List Pipe} {h j x : Nat} {t : Int} : (j, t, x) ∈ outs ps h ↔ Stp ps (j, t) h x := by
  rw [outs, mem_outsF]
  constructor
  · rintro ⟨i, p, e, e2, q⟩
    have : j = i := by omega
    subst this
    exact ⟨p, e2, q⟩
  · rintro ⟨p, e2, q⟩
    exact ⟨j, p, by omega, e2, q⟩
def nexts (ps : List Pipe) (ok : Nat → Bool) (h : Nat) (seen : List Nat) := (outs ps h).filter fun o => ok o.1 && !seen.contains o.2.2
def paths (ps : List Pipe) (ok : Nat → Bool) (goal : Nat) : Nat → Nat → List Nat → List (List St)
  | 0, _, _ => []
  | f + 1, h, seen => if h = goal then [[]] else (nexts ps ok h seen).flatMap fun o => (paths ps ok goal f o.2.2 (seen ++ [o.2.2])).map ((o.1, o.2.1) :: ·)
def nodes (ps : List Pipe) (ok : Nat → Bool) (goal : Nat) : Nat → Nat → List Nat → Nat
  | 0, _, _ => 1
  | f + 1, h, seen => if h = goal then 1 else 1 + ((nexts ps ok h seen).map fun o => nodes ps ok goal f o.2.2 (seen ++ [o.2.2])).sum
theorem nodes_pos {ps ok goal f h seen} : 1 ≤ nodes ps ok goal f h seen := by
  cases f with
  | zero => exact Nat.le_refl _
  | succ f => rw [nodes]; split <;> omega
/-! ### how many nodes there are -/
def alive (ps : List Pipe) (h : Nat) (seen : List Nat) : Nat := ps.countP fun p => (p.1 == h || !seen.contains p.1) && (p.2 == h || !seen.contains p.2)
theorem alive_step {h x : Nat} {seen : List Nat} (hs : h ∈ seen) (hx : x ∉ seen) : ∀ {ps : List Pipe} {k : Nat}, (∀ p ∈ ps, p.1 ≠ p.2) → alive ps x (seen ++ [x]) + ((outsF h k ps).filter fun o => !seen.contains o.2.2).length ≤ alive ps h seen
  | [], k, _ => by simp [alive, outsF]
  | p :: ps, k, hp => by
    have ih := alive_step hs hx (ps := ps) (k := k + 1) fun q hq => hp q (List.mem_cons_of_mem _ hq)
    have hne := hp p (by simp)
    unfold alive at ih ⊢
    rw [List.countP_cons, List.countP_cons, outsF, List.filter_append, List.filter_append, List.length_append, List.length_append]
    have hxh : h ≠ x := fun e => hx (by rw [← e]; exact hs)
    have key : (if ((p.1 == x || !(seen ++ [x]).contains p.1) && (p.2 == x || !(seen ++ [x]).contains p.2)) = true then 1 else 0) + (((if p.1 = h then [(k, (1 : Int), p.2)] else []).filter fun o => !seen.contains o.2.2).length + ((if p.2 = h then [(k, (-1 : Int), p.1)] else []).filter fun o => !seen.contains o.2.2).length)
        ≤ (if ((p.1 == h || !seen.contains p.1) && (p.2 == h || !seen.contains p.2)) = true then 1 else 0) := by
      obtain ⟨a, b⟩ := p
      dsimp only at hne ⊢
      have cs : (seen.contains h) = true := by simpa using hs
      have cx : (seen.contains x) = false := by simpa using hx
      by_cases ha : a = h
      · subst ha
        by_cases hb : b = a
        · exact absurd hb.symm hne
        · rw [if_pos rfl, if_neg hb]
          have e1 : (a == x) = false := by simpa using hxh
          have e2 : (seen ++ [x]).contains a = true := by simp [hs]
          rw [e1, e2]
          by_cases hc : b ∈ seen
          · simp [hc, List.filter_cons]
          · simp [hc, List.filter_cons]
      · by_cases hb : b = h
        · subst hb
          rw [if_neg ha, if_pos rfl]
          have e1 : (b == x) = false := by simpa using hxh
          have e2 : (seen ++ [x]).contains b = true := by simp [hs]
          rw [e1, e2]
          by_cases hc : a ∈ seen
          · simp [hc, List.filter_cons]
          · simp [hc, List.filter_cons]
        · rw [if_neg ha, if_neg hb]
          have ea : ∀ c : Nat, (c == x || !(seen ++ [x]).contains c) = (!seen.contains c) := fun c => by
            by_cases hc : c = x
            · subst hc; simp [hx]
            · have : (seen ++ [x]).contains c = seen.contains c := by simp [hc]
              rw [this]; simp [hc]
          rw [ea, ea]
          have e3 : (a == h) = false := by simpa using ha
          have e4 : (b == h) = false := by simpa using hb
          rw [e3, e4]
          simp
    omega
def Wt : List Nat := [1, 2, 3, 5, 7, 11, 16, 23, 34, 49, 70, 103, 148, 211, 310, 445, 634, 931, 1336, 1903, 2794]
def W (m : Nat) : Nat := Wt.getD m 0
theorem W_ok : ∀ m : Fin 21, ∀ d : Fin 21, d.val ≤ m.val → 1 + d.val * W (m.val - d.val) ≤ W m.val := by decide
theorem W_mono : ∀ m : Fin 21, ∀ d : Fin 21, d.val ≤ m.val → W d.val ≤ W m.val := by decide
theorem W_pos : ∀ m : Fin 21, 1 ≤ W m.val := by decide
theorem sum_le {α : Type} {g : α → Nat} {b : Nat} : ∀ {l : List α}, (∀ x ∈ l, g x ≤ b) → (l.map g).sum ≤ l.length * b
  | [], _ => by simp
  | x :: l, h => by
    have := sum_le fun y hy => h y (List.mem_cons_of_mem _ hy)
    have h1 := h x (by simp)
    rw [List.map_cons, List.sum_cons, List.length_cons, Nat.succ_mul]
    omega
theorem nodes_le {ps : List Pipe} {ok : Nat → Bool} {goal : Nat} (hp : ∀ p ∈ ps, p.1 ≠ p.2) : ∀ {f h : Nat} {seen : List Nat}, h ∈ seen → alive ps h seen ≤ 20 → nodes ps ok goal f h seen ≤ W (alive ps h seen)
  | 0, h, seen, hs, ha => W_pos ⟨alive ps h seen, by omega⟩
  | f + 1, h, seen, hs, ha => by
    rw [nodes]
    split
    · exact W_pos ⟨alive ps h seen, by omega⟩
    · have hd : (nexts ps ok h seen).length ≤ ((outsF h 0 ps).filter fun o => !seen.contains o.2.2).length := by
        unfold nexts
        rw [← List.filter_filter]
        have : ((outs ps h).filter fun o => !seen.contains o.2.2).filter (fun o => ok o.1) = (outs ps h).filter fun o => ok o.1 && !seen.contains o.2.2 := by
          rw [List.filter_filter]
        rw [List.filter_filter, ← this]
        exact List.length_filter_le _ _
      have hmem : ∀ o ∈ nexts ps ok h seen, o.2.2 ∉ seen := fun o ho => by
        have := (List.mem_filter.mp ho).2
        simp at this
        exact this.2
      have hb : ∀ o ∈ nexts ps ok h seen, nodes ps ok goal f o.2.2 (seen ++ [o.2.2]) ≤ W (alive ps h seen - (nexts ps ok h seen).length) := fun o ho => by
        have st := alive_step hs (hmem o ho) (k := 0) hp
        have i := nodes_le hp (ok := ok) (goal := goal) (f := f) (h := o.2.2) (seen := seen ++ [o.2.2]) (by simp) (by omega)
        refine Nat.le_trans i ?_
        exact W_mono ⟨alive ps h seen - (nexts ps ok h seen).length, by omega⟩ ⟨alive ps o.2.2 (seen ++ [o.2.2]), by omega⟩ (by show alive ps o.2.2 (seen ++ [o.2.2]) ≤ alive ps h seen - (nexts ps ok h seen).length; omega)
      have s := sum_le hb
      have hle : (nexts ps ok h seen).length ≤ alive ps h seen := by
        cases hn : nexts ps ok h seen with
        | nil => simp
        | cons o r =>
          have st := alive_step hs (hmem o (by rw [hn]; simp)) (k := 0) hp
          rw [← hn]; omega
      have w := W_ok ⟨alive ps h seen, by omega⟩ ⟨(nexts ps ok h seen).length, by omega⟩ hle
      dsimp only at w
      omega
theorem nodes_small {ps : List Pipe} {ok : Nat → Bool} {goal f h : Nat} {seen : List Nat} (hp : ∀ p ∈ ps, p.1 ≠ p.2) (hl : ps.length ≤ 20) (hs : h ∈ seen) : nodes ps ok goal f h seen ≤ 2794 := by
  have ha : alive ps h seen ≤ 20 := Nat.le_trans List.countP_le_length hl
  exact Nat.le_trans (nodes_le hp hs ha) (W_mono ⟨20, by omega⟩ ⟨alive ps h seen, by omega⟩ ha)
/-! ### an open way: its steps, where it stands, what it has met -/
structure Op where
  way : List St
  seen : List Nat
def Op.here (o : Op) : Nat := o.seen.getLast?.getD 0
def Op.ok (n : Nat) (o : Op) : Prop := o.seen ≠ [] ∧ o.seen.Nodup ∧ ∀ x ∈ o.seen, x < n
section
variable (ps : List Pipe) (ok : Nat → Bool) (goal : Nat)
def Op.con (o : Op) : List (List St) := (paths ps ok goal (13 - o.seen.length) o.here o.seen).map (o.way ++ ·)
def Op.cnt (o : Op) : Nat := nodes ps ok goal (13 - o.seen.length) o.here o.seen
def Op.add (o : Op) (s : Nat × Int × Nat) : Op := ⟨o.way ++ [(s.1, s.2.1)], o.seen ++ [s.2.2]⟩
def Op.nx (o : Op) : List Op := (nexts ps ok o.here o.seen).map o.add
end
section
variable {ps : List Pipe} {ok : Nat → Bool} {goal n : Nat} {o : Op}
theorem len_le : ∀ {n : Nat} {l : List Nat}, l.Nodup → (∀ x ∈ l, x < n) → l.length ≤ n
  | 0, [], _, _ => Nat.le_refl _
  | 0, x :: l, _, h => absurd (h x (by simp)) (by omega)
  | n + 1, l, hd, h => by
    have ih := len_le (n := n) (l := l.erase n) (hd.erase n) fun x hx => by
      have h1 := (hd.mem_erase_iff.mp hx)
      have := h x h1.2
      omega
    rw [List.length_erase] at ih
    split at ih <;> omega
theorem Op.ok.len (h : o.ok n) (hn : n ≤ 12) : o.seen.length ≤ 12 := Nat.le_trans (len_le h.2.1 h.2.2) hn
@[simp] theorem Op.add_here {s : Nat × Int × Nat} : (o.add s).here = s.2.2 := by simp [Op.add, Op.here]
theorem Op.add_ok {s : Nat × Int × Nat} (h : o.ok n) (hs : s.2.2 ∉ o.seen) (hn : s.2.2 < n) : (o.add s).ok n := by
  refine ⟨by simp [Op.add], ?_, ?_⟩
  · simp only [Op.add]
    exact List.nodup_append.mpr ⟨h.2.1, by simp, fun a ha b hb e => hs (by simp at hb; rw [← hb, ← e]; exact ha)⟩
  · intro x hx
    simp only [Op.add, List.mem_append, List.mem_singleton] at hx
    rcases hx with hx | hx
    · exact h.2.2 x hx
    · omega
theorem Op.con_goal (h : o.ok n) (hn : n ≤ 12) (hg : o.here = goal) : o.con ps ok goal = [o.way] := by
  have := h.len hn
  obtain ⟨f, hf⟩ : ∃ f, 13 - o.seen.length = f + 1 := ⟨12 - o.seen.length, by omega⟩
  rw [Op.con, hf, paths, if_pos hg]
  simp
theorem Op.con_step (h : o.ok n) (hn : n ≤ 12) (hg : o.here ≠ goal) : o.con ps ok goal = (o.nx ps ok).flatMap fun p => p.con ps ok goal := by
  have := h.len hn
  obtain ⟨f, hf⟩ : ∃ f, 13 - o.seen.length = f + 1 := ⟨12 - o.seen.length, by omega⟩
  rw [Op.con, hf, paths, if_neg hg, List.map_flatMap, Op.nx, List.flatMap_map]
  congr 1
  funext s
  have e : 13 - (o.add s).seen.length = f := by simp only [Op.add, List.length_append, List.length_singleton]; omega
  rw [Op.con, e, Op.add_here, List.map_map]
  congr 1
  funext w
  simp [Op.add]
theorem Op.cnt_step (h : o.ok n) (hn : n ≤ 12) (hg : o.here ≠ goal) : o.cnt ps ok goal = 1 + ((o.nx ps ok).map fun p => p.cnt ps ok goal).sum := by
  have := h.len hn
  obtain ⟨f, hf⟩ : ∃ f, 13 - o.seen.length = f + 1 := ⟨12 - o.seen.length, by omega⟩
  rw [Op.cnt, hf, nodes, if_neg hg, Op.nx, List.map_map]
  congr 2
  refine List.map_congr_left fun s _ => ?_
  have e : 13 - (o.add s).seen.length = f := by simp only [Op.add, List.length_append, List.length_singleton]; omega
  show _ = (o.add s).cnt ps ok goal
  rw [Op.cnt, e, Op.add_here]
  rfl
theorem Op.cnt_pos : 1 ≤ o.cnt ps ok goal := nodes_pos
theorem Op.nx_ok (h : o.ok n) (hb : ∀ p ∈ ps, p.1 < n ∧ p.2 < n) : ∀ p ∈ o.nx ps ok, p.ok n := fun p hp => by
  obtain ⟨⟨j, t, x⟩, hs, rfl⟩ := List.mem_map.mp hp
  have := List.mem_filter.mp hs
  obtain ⟨q, e, hq⟩ := mem_outs.mp this.1
  have hm := List.mem_of_getElem? e
  have hb' := hb q hm
  have h2 := this.2
  simp at h2
  refine Op.add_ok h h2.2 ?_
  rcases hq with ⟨_, _, z⟩ | ⟨_, _, z⟩ <;> (show x < n; omega)
end
theorem paths_len {ps : List Pipe} {ok : Nat → Bool} {goal : Nat} : ∀ {f h : Nat} {seen : List Nat}, (paths ps ok goal f h seen).length ≤ nodes ps ok goal f h seen
  | 0, h, seen => by simp [paths]
  | f + 1, h, seen => by
    rw [paths, nodes]
    split
    · simp
    · have key : ∀ l : List (Nat × Int × Nat), (l.flatMap fun o => (paths ps ok goal f o.2.2 (seen ++ [o.2.2])).map ((o.1, o.2.1) :: ·)).length ≤ (l.map fun o => nodes ps ok goal f o.2.2 (seen ++ [o.2.2])).sum := by
        intro l
        induction l with
        | nil => simp
        | cons o l ih =>
          have := paths_len (ps := ps) (ok := ok) (goal := goal) (f := f) (h := o.2.2) (seen := seen ++ [o.2.2])
          rw [List.flatMap_cons, List.length_append, List.length_map, List.map_cons, List.sum_cons]
          omega
      exact Nat.le_trans (key (nexts ps ok h seen)) (Nat.le_add_left _ _)
/-- what ends at once, and what goes on -/
theorem split_perm {α β : Type} {p : α → Bool} {g : α → List β} {w : α → β} : ∀ {l : List α}, (∀ x ∈ l, p x = true → g x = [w x]) → (l.flatMap g).Perm ((l.filter p).map w ++ (l.filter fun x => !p x).flatMap g)
  | [], _ => by simp
  | x :: l, h => by
    have ih := split_perm fun y hy => h y (List.mem_cons_of_mem _ hy)
    rw [List.flatMap_cons]
    cases hp : p x with
    | true =>
      rw [h x (by simp) hp, List.filter_cons_of_pos hp, List.filter_cons_of_neg (by simp [hp]), List.map_cons]
      exact List.Perm.cons _ ih
    | false =>
      rw [List.filter_cons_of_neg (by simp [hp]), List.filter_cons_of_pos (by simp [hp]), List.flatMap_cons]
      exact (List.Perm.append_left _ ih).trans (by
        rw [← List.append_assoc, ← List.append_assoc]
        exact List.Perm.append_right _ List.perm_append_comm)
theorem sum_filter {α : Type} {g : α → Nat} {p : α → Bool} : ∀ {l : List α}, ((l.filter p).map g).sum ≤ (l.map g).sum
  | [] => by simp
  | x :: l => by
    have := sum_filter (g := g) (p := p) (l := l)
    rw [List.filter_cons]
    split <;> simp <;> omega
theorem len_sum {α : Type} {g : α → Nat} : ∀ {l : List α}, (∀ x ∈ l, 1 ≤ g x) → l.length ≤ (l.map g).sum
  | [], _ => by simp
  | x :: l, h => by
    have := len_sum fun y hy => h y (List.mem_cons_of_mem _ hy)
    have h1 := h x (by simp)
    simp
    omega
end Rg

set_option linter.all false
set_option maxRecDepth 100000
namespace Rg
/-! ## walks and rings -/
def far (ps : List Pipe) (s : St) : Nat := match ps[s.1]? with
  | some p => if s.2 = 1 then p.2 else p.1
  | none => 0
def near (ps : List Pipe) (s : St) : Nat := match ps[s.1]? with
  | some p => if s.2 = 1 then p.1 else p.2
  | none => 0
def flip (s : St) : St := (s.1, -s.2)
/-- a step that there is -/
def Ok1 (ps : List Pipe) (s : St) : Prop := s.1 < ps.length ∧ (s.2 = 1 ∨ s.2 = -1)
section
variable {ps : List Pipe} {s : St} {a b c : Nat} {w : List St}
theorem stp_iff : Stp ps s a b ↔ Ok1 ps s ∧ near ps s = a ∧ far ps s = b := by
  unfold Stp Ok1 near far
  constructor
  · rintro ⟨p, e, h⟩
    have hl := (List.getElem?_eq_some_iff.mp e).1
    rw [e]
    rcases h with ⟨h1, h2, h3⟩ | ⟨h1, h2, h3⟩
    · exact ⟨⟨hl, .inl h1⟩, by simp [h1, h2], by simp [h1, h3]⟩
    · exact ⟨⟨hl, .inr h1⟩, by simp [h1, h2], by simp [h1, h3]⟩
  · rintro ⟨⟨hl, h⟩, h2, h3⟩
    rw [List.getElem?_eq_getElem hl] at h2 h3
    refine ⟨ps[s.1], List.getElem?_eq_getElem hl, ?_⟩
    rcases h with h | h
    · exact .inl ⟨h, by simpa [h] using h2, by simpa [h] using h3⟩
    · exact .inr ⟨h, by simpa [h] using h2, by simpa [h] using h3⟩
theorem flip_ok (h : Ok1 ps s) : Ok1 ps (flip s) := by
  refine ⟨h.1, ?_⟩
  rcases h.2 with h | h <;> simp [flip, h]
theorem flip_near (h : Ok1 ps s) : near ps (flip s) = far ps s := by
  unfold near far flip
  cases ps[s.1]? with
  | none => rfl
  | some p => rcases h.2 with h | h <;> simp [h]
theorem flip_far (h : Ok1 ps s) : far ps (flip s) = near ps s := by
  unfold near far flip
  cases ps[s.1]? with
  | none => rfl
  | some p => rcases h.2 with h | h <;> simp [h]
/-- a walk from a to b -/
def Wlk (ps : List Pipe) : Nat → List St → Nat → Prop
  | a, [], b => a = b
  | a, s :: w, b => Ok1 ps s ∧ near ps s = a ∧ Wlk ps (far ps s) w b
theorem Wlk.append : ∀ {w v : List St} {a b c : Nat}, Wlk ps a w b → Wlk ps b v c → Wlk ps a (w ++ v) c
  | [], v, a, b, c, h, g => by
    have h : a = b := h
    rw [h]; exact g
  | s :: w, v, a, b, c, h, g => ⟨h.1, h.2.1, Wlk.append h.2.2 g⟩
theorem Wlk.split : ∀ {w v : List St} {a c : Nat}, Wlk ps a (w ++ v) c → ∃ b, Wlk ps a w b ∧ Wlk ps b v c
  | [], v, a, c, h => ⟨a, rfl, h⟩
  | s :: w, v, a, c, h => by
    obtain ⟨b, h1, h2⟩ := Wlk.split h.2.2
    exact ⟨b, ⟨h.1, h.2.1, h1⟩, h2⟩
theorem Wlk.ok : ∀ {w : List St} {a b : Nat}, Wlk ps a w b → ∀ s ∈ w, Ok1 ps s
  | [], _, _, _, s, hs => by cases hs
  | s :: w, a, b, h, t, ht => by
    rcases List.mem_cons.mp ht with e | ht
    · rw [e]; exact h.1
    · exact Wlk.ok h.2.2 t ht
/-- the places, without the first one, without the last one -/
theorem Wlk.shift : ∀ {w : List St} {a b : Nat}, Wlk ps a w b → a :: w.map (far ps) = w.map (near ps) ++ [b]
  | [], a, b, h => by
    have h : a = b := h
    simp [h]
  | s :: w, a, b, h => by
    have := Wlk.shift h.2.2
    rw [List.map_cons, List.map_cons, List.cons_append, h.2.1, ← this]
def rev (w : List St) : List St := w.reverse.map flip
theorem Wlk.rev : ∀ {w : List St} {a b : Nat}, Wlk ps a w b → Wlk ps b (rev w) a
  | [], a, b, h => Eq.symm h
  | s :: w, a, b, h => by
    have : Rg.rev (s :: w) = Rg.rev w ++ [flip s] := by simp [Rg.rev]
    rw [this]
    exact Wlk.append (Wlk.rev h.2.2) ⟨flip_ok h.1, flip_near h.1, (flip_far h.1).trans h.2.1⟩
/-- a ring -/
structure Cyc (ps : List Pipe) (c : List St) : Prop where
  ne : c ≠ []
  ex : ∃ u, Wlk ps u c u
  nd : (c.map (far ps)).Nodup
  pp : (c.map (·.1)).Nodup
theorem Cyc.perm_near {c : List St} (h : Cyc ps c) : (c.map (near ps)).Perm (c.map (far ps)) := by
  obtain ⟨u, hw⟩ := h.ex
  have := hw.shift
  have p : (u :: c.map (far ps)).Perm (u :: c.map (near ps)) := by
    rw [this]
    exact List.perm_append_comm
  exact ((List.perm_cons u).mp p).symm
theorem Cyc.nn {c : List St} (h : Cyc ps c) : (c.map (near ps)).Nodup := h.perm_near.nodup_iff.mpr h.nd
theorem Cyc.rot {v w : List St} (h : Cyc ps (v ++ w)) : Cyc ps (w ++ v) := by
  obtain ⟨u, hw⟩ := h.ex
  obtain ⟨x, h1, h2⟩ := hw.split
  refine ⟨fun e => h.ne (by simp at e; simp [e.1, e.2]), ⟨x, h2.append h1⟩, ?_, ?_⟩
  · have := h.nd
    rw [List.map_append] at this ⊢
    exact List.perm_append_comm.nodup_iff.mpr this
  · have := h.pp
    rw [List.map_append] at this ⊢
    exact List.perm_append_comm.nodup_iff.mpr this
theorem Cyc.rev {c : List St} (h : Cyc ps c) : Cyc ps (Rg.rev c) := by
  obtain ⟨u, hw⟩ := h.ex
  refine ⟨fun e => h.ne (by simpa [Rg.rev] using e), ⟨u, hw.rev⟩, ?_, ?_⟩
  · have e : (Rg.rev c).map (far ps) = (c.map (near ps)).reverse := by
      unfold Rg.rev
      rw [List.map_map, ← List.map_reverse]
      refine List.map_congr_left fun s hs => ?_
      exact flip_far (hw.ok s (List.mem_reverse.mp hs))
    rw [e]
    exact (List.reverse_perm _).nodup_iff.mpr h.nn
  · have e : (Rg.rev c).map (·.1) = (c.map (·.1)).reverse := by
      unfold Rg.rev
      rw [List.map_map, ← List.map_reverse]
      rfl
    rw [e]
    exact (List.reverse_perm _).nodup_iff.mpr h.pp
theorem flip_flip (s : St) : flip (flip s) = s := by
  obtain ⟨j, t⟩ := s
  simp [flip]
/-- a step of a ring comes to its front -/
theorem Cyc.front {c : List St} {j : Nat} {t : Int} (h : Cyc ps c) (hs : (j, t) ∈ c) : ∃ z, Cyc ps ((j, t) :: z) ∧ ((j, t) :: z).Perm c := by
  obtain ⟨x, y, rfl⟩ := List.append_of_mem hs
  have := h.rot (v := x) (w := (j, t) :: y)
  exact ⟨y ++ x, by simpa using this, by simpa using (List.perm_append_comm (l₁ := (j, t) :: y) (l₂ := x))⟩
theorem Cyc.front1 {c : List St} {j : Nat} {t : Int} (h : Cyc ps c) (hs : (j, t) ∈ c) : (t = 1 ∧ ∃ z, Cyc ps ((j, 1) :: z) ∧ ((j, 1) :: z).Perm c) ∨ (t = -1 ∧ ∃ z, Cyc ps ((j, 1) :: z) ∧ ((j, 1) :: z).Perm (c.map flip)) := by
  obtain ⟨u, hw⟩ := h.ex
  have ht := (hw.ok _ hs).2
  rcases ht with ht | ht
  · have ht : t = 1 := ht
    subst ht
    exact .inl ⟨rfl, h.front hs⟩
  · have ht : t = -1 := ht
    subst ht
    refine .inr ⟨rfl, ?_⟩
    have h2 := h.rev
    have hm : (j, (1 : Int)) ∈ Rg.rev c := by
      unfold Rg.rev
      exact List.mem_map.mpr ⟨(j, -1), List.mem_reverse.mpr hs, by simp [flip]⟩
    obtain ⟨z, h3, h4⟩ := h2.front hm
    exact ⟨z, h3, h4.trans (by unfold Rg.rev; exact (List.reverse_perm c).map flip)⟩
/-! ### simple ways -/
structure Way (ps : List Pipe) (a : Nat) (w : List St) (b : Nat) : Prop where
  wk : Wlk ps a w b
  nd : (a :: w.map (far ps)).Nodup
theorem Way.pipes : ∀ {w : List St} {a b : Nat}, Wlk ps a w b → (a :: w.map (far ps)).Nodup → (w.map (·.1)).Nodup
  | [], _, _, _, _ => by simp
  | s :: w, a, b, h, nd => by
    rw [List.map_cons, List.nodup_cons] at nd
    rw [List.map_cons, List.nodup_cons]
    refine ⟨fun hm => ?_, Way.pipes h.2.2 (by simpa using nd.2)⟩
    obtain ⟨r, hr, er⟩ := List.mem_map.mp hm
    -- r stands on the pipe of s
    have hok := Wlk.ok h.2.2 r hr
    have hf : far ps r = far ps s ∨ far ps r = near ps s := by
      unfold far near
      have er : r.1 = s.1 := er
      rw [er]
      cases ps[s.1]? with
      | none => exact .inl rfl
      | some p =>
        rcases hok.2 with h1 | h1 <;> rcases h.1.2 with h2 | h2 <;> simp [h1, h2]
    have hmem : far ps r ∈ w.map (far ps) := List.mem_map_of_mem hr
    rcases hf with e | e
    · have n2 := nd.2
      rw [List.nodup_cons] at n2
      exact n2.1 (by rw [← e]; exact hmem)
    · exact nd.1 (by rw [← h.2.1, ← e]; exact List.mem_cons_of_mem _ hmem)
theorem cyc_iff {j : Nat} {w : List St} : Cyc ps ((j, 1) :: w) ↔ j < ps.length ∧ Way ps (far ps (j, 1)) w (near ps (j, 1)) ∧ ∀ s ∈ w, s.1 ≠ j := by
  constructor
  · intro h
    obtain ⟨u, hw⟩ := h.ex
    have e : near ps (j, 1) = u := hw.2.1
    refine ⟨hw.1.1, ⟨by rw [e]; exact hw.2.2, by simpa using h.nd⟩, fun s hs e => ?_⟩
    have := h.pp
    rw [List.map_cons, List.nodup_cons] at this
    have hm := List.mem_map_of_mem (f := fun x : St => x.1) hs
    rw [e] at hm
    exact this.1 hm
  · rintro ⟨hj, hw, hn⟩
    refine ⟨by simp, ⟨near ps (j, 1), ⟨hj, .inl rfl⟩, rfl, hw.wk⟩, by simpa using hw.nd, ?_⟩
    rw [List.map_cons, List.nodup_cons]
    refine ⟨fun hm => ?_, Way.pipes hw.wk hw.nd⟩
    obtain ⟨s, hs, e⟩ := List.mem_map.mp hm
    exact hn s hs e
/-! ### the ways as listed -/
theorem mem_nexts {ok : Nat → Bool} {h : Nat} {seen : List Nat} {o : Nat × Int × Nat} : o ∈ nexts ps ok h seen ↔ (Ok1 ps (o.1, o.2.1) ∧ near ps (o.1, o.2.1) = h ∧ far ps (o.1, o.2.1) = o.2.2) ∧ ok o.1 = true ∧ o.2.2 ∉ seen := by
  obtain ⟨j, t, x⟩ := o
  unfold nexts
  rw [List.mem_filter, mem_outs, stp_iff]
  simp
theorem mem_paths {ok : Nat → Bool} {goal : Nat} : ∀ {f h : Nat} {seen : List Nat} {w : List St}, h ∈ seen → (w ∈ paths ps ok goal f h seen ↔ w.length < f ∧ Wlk ps h w goal ∧ (∀ s ∈ w, ok s.1 = true) ∧ (w.map (far ps)).Nodup ∧ ∀ x ∈ w.map (far ps), x ∉ seen)
  | 0, h, seen, w, hs => by simp [paths]
  | f + 1, h, seen, w, hs => by
    rw [paths]
    split
    · rename_i hg
      subst hg
      constructor
      · intro hm
        have : w = [] := by simpa using hm
        subst this
        exact ⟨by simp, rfl, by simp, by simp, by simp⟩
      · rintro ⟨h1, h2, h3, h4, h5⟩
        cases w with
        | nil => simp
        | cons s w =>
          exfalso
          have := h2.shift
          have hl : h ∈ (s :: w).map (far ps) := by
            have e2 : ((s :: w).map (far ps)).getLast? = some h := by
              have := congrArg List.getLast? this
              rw [List.getLast?_append] at this
              simp at this
              simp [this]
            exact List.mem_of_getLast? e2
          exact h5 h hl hs
    · rename_i hg
      rw [List.mem_flatMap]
      constructor
      · rintro ⟨o, ho, hm⟩
        obtain ⟨v, hv, rfl⟩ := List.mem_map.mp hm
        obtain ⟨⟨o1, o2, o3⟩, o4, o5⟩ := mem_nexts.mp ho
        obtain ⟨v1, v2, v3, v4, v5⟩ := (mem_paths (by simp)).mp hv
        refine ⟨by simp; omega, ⟨o1, o2, by rw [o3]; exact v2⟩, fun s hs => ?_, ?_, fun x hx => ?_⟩
        · rcases List.mem_cons.mp hs with e | hs
          · rw [e]; exact o4
          · exact v3 s hs
        · rw [List.map_cons, List.nodup_cons]
          refine ⟨fun z => v5 _ z ?_, v4⟩
          rw [o3]; simp
        · rw [List.map_cons] at hx
          rcases List.mem_cons.mp hx with e | hx
          · rw [e, o3]; exact o5
          · exact fun z => v5 x hx (by simp [z])
      · rintro ⟨h1, h2, h3, h4, h5⟩
        cases w with
        | nil => exact absurd h2 hg
        | cons s v =>
          refine ⟨(s.1, s.2, far ps s), mem_nexts.mpr ⟨⟨h2.1, h2.2.1, rfl⟩, h3 s (by simp), h5 _ (by simp)⟩, ?_⟩
          refine List.mem_map.mpr ⟨v, (mem_paths (by simp)).mpr ⟨by simp at h1; omega, h2.2.2, fun r hr => h3 r (by simp [hr]), ?_, fun x hx z => ?_⟩, rfl⟩
          · rw [List.map_cons, List.nodup_cons] at h4; exact h4.2
          · rw [List.map_cons, List.nodup_cons] at h4
            rcases List.mem_append.mp z with z | z
            · exact h5 x (by simp at hx ⊢; exact .inr hx) z
            · have : x = far ps s := by simpa using z
              subst this
              exact h4.1 hx
/-- all simple ways from a to b -/
def ways (ps : List Pipe) (ok : Nat → Bool) (a b : Nat) : List (List St) := paths ps ok b 12 a [a]
structure Web (n : Nat) (ps : List Pipe) : Prop where
  hi : n ≤ 12
  len : ps.length ≤ 20
  a : ∀ p ∈ ps, p.1 < n
  b : ∀ p ∈ ps, p.2 < n
  ne : ∀ p ∈ ps, p.1 ≠ p.2
theorem far_lt {n : Nat} (H : Web n ps) (h : Ok1 ps s) : far ps s < n := by
  unfold far
  rw [List.getElem?_eq_getElem h.1]
  dsimp only
  split
  · exact H.b _ (List.getElem_mem _)
  · exact H.a _ (List.getElem_mem _)
theorem near_lt {n : Nat} (H : Web n ps) (h : Ok1 ps s) : near ps s < n := by
  unfold near
  rw [List.getElem?_eq_getElem h.1]
  dsimp only
  split
  · exact H.a _ (List.getElem_mem _)
  · exact H.b _ (List.getElem_mem _)
theorem mem_ways {n : Nat} (H : Web n ps) {ok : Nat → Bool} {a b : Nat} (ha : a < n) {w : List St} : w ∈ ways ps ok a b ↔ Way ps a w b ∧ ∀ s ∈ w, ok s.1 = true := by
  unfold ways
  rw [mem_paths (by simp)]
  constructor
  · rintro ⟨h1, h2, h3, h4, h5⟩
    exact ⟨⟨h2, by rw [List.nodup_cons]; exact ⟨fun z => h5 a z (by simp), h4⟩⟩, h3⟩
  · rintro ⟨⟨h1, h2⟩, h3⟩
    have h2' := List.nodup_cons.mp h2
    refine ⟨?_, h1, h3, h2'.2, fun x hx z => h2'.1 (by
      have : x = a := by simpa using z
      rw [← this]; exact hx)⟩
    have := len_le h2 (n := n) fun x hx => by
      rcases List.mem_cons.mp hx with e | hx
      · rw [e]; exact ha
      · obtain ⟨s, hs, rfl⟩ := List.mem_map.mp hx
        exact far_lt H (h1.ok s hs)
    have hh := H.hi
    rw [List.length_cons, List.length_map] at this
    omega
theorem outsF_nodup {h : Nat} : ∀ {ps : List Pipe} {k : Nat}, (∀ p ∈ ps, p.1 ≠ p.2) → (outsF h k ps).Nodup
  | [], k, _ => by simp [outsF]
  | p :: ps, k, hp => by
    have hne := hp p (by simp)
    rw [outsF]
    have gt : ∀ o ∈ outsF h (k + 1) ps, k < o.1 := fun o ho => by
      obtain ⟨j, t, x⟩ := o
      obtain ⟨i, r, e, _⟩ := mem_outsF.mp ho
      show k < j
      omega
    refine List.nodup_append.mpr ⟨by split <;> simp, List.nodup_append.mpr ⟨by split <;> simp, outsF_nodup fun q hq => hp q (List.mem_cons_of_mem _ hq), fun a ha b hb e => ?_⟩, fun a ha b hb e => ?_⟩
    · subst e
      have := gt a hb
      split at ha
      · simp at ha; rw [ha] at this; exact absurd this (by simp)
      · cases ha
    · subst e
      split at ha
      · rename_i h1
        have ha : a = (k, 1, p.2) := by simpa using ha
        rcases List.mem_append.mp hb with hb | hb
        · rw [if_neg (fun z => hne (h1.trans z.symm))] at hb
          cases hb
        · have := gt a hb
          rw [ha] at this; exact absurd this (by simp)
      · cases ha
theorem paths_nodup {ok : Nat → Bool} {goal : Nat} (hp : ∀ p ∈ ps, p.1 ≠ p.2) : ∀ {f h : Nat} {seen : List Nat}, (paths ps ok goal f h seen).Nodup
  | 0, h, seen => by simp [paths]
  | f + 1, h, seen => by
    rw [paths]
    split
    · simp
    · rw [List.Nodup, List.pairwise_flatMap]
      refine ⟨fun o ho => ?_, ?_⟩
      · exact List.pairwise_map.mpr ((paths_nodup hp (f := f)).imp fun {a b} hne e => hne (by simpa using e))
      · have nd : (nexts ps ok h seen).Nodup := (outsF_nodup hp).filter _
        refine List.Pairwise.imp_of_mem ?_ nd
        intro a b ha hb hne x hx y hy e
        obtain ⟨u, _, rfl⟩ := List.mem_map.mp hx
        obtain ⟨v, _, rfl⟩ := List.mem_map.mp hy
        have ka := (mem_nexts.mp ha).1.2.2
        have kb := (mem_nexts.mp hb).1.2.2
        simp only [List.cons.injEq, Prod.mk.injEq] at e
        rw [e.1.1, e.1.2] at ka
        refine hne ?_
        obtain ⟨a1, a2, a3⟩ := a
        obtain ⟨b1, b2, b3⟩ := b
        simp only at e ka kb
        obtain ⟨⟨e1, e2⟩, _⟩ := e
        subst e1; subst e2
        rw [← ka, ← kb]
theorem ways_nodup {ok : Nat → Bool} {a b : Nat} (hp : ∀ p ∈ ps, p.1 ≠ p.2) : (ways ps ok a b).Nodup := paths_nodup hp
end
/-! ## values of rings -/
def vl : List St → Nat → Int
  | [], _ => 0
  | s :: w, j => if s.1 = j then s.2 else vl w j
section
variable {ps : List Pipe} {c c' : List St} {j k : Nat} {t : Int}
theorem vl_mem : ∀ {c : List St}, (c.map (·.1)).Nodup → (j, t) ∈ c → vl c j = t
  | s :: c, h, hm => by
    rw [List.map_cons, List.nodup_cons] at h
    rw [vl]
    rcases List.mem_cons.mp hm with e | hm
    · rw [← e]; simp
    · rw [if_neg (fun z => h.1 (by rw [z]; exact List.mem_map_of_mem (f := fun x : St => x.1) hm)), vl_mem h.2 hm]
theorem vl_none : ∀ {c : List St}, j ∉ c.map (·.1) → vl c j = 0
  | [], _ => rfl
  | s :: c, h => by
    rw [List.map_cons, List.mem_cons] at h
    rw [vl, if_neg (fun z => h (.inl z.symm)), vl_none fun z => h (.inr z)]
theorem vl_perm (h : (c.map (·.1)).Nodup) (hp : c'.Perm c) : vl c' j = vl c j := by
  have h' : (c'.map (·.1)).Nodup := (hp.map _).nodup_iff.mpr h
  by_cases hm : j ∈ c.map (·.1)
  · obtain ⟨s, hs, e⟩ := List.mem_map.mp hm
    obtain ⟨a, b⟩ := s
    have e : a = j := e
    subst e
    rw [vl_mem h hs, vl_mem h' (hp.mem_iff.mpr hs)]
  · rw [vl_none hm, vl_none fun z => hm ((hp.map (·.1)).mem_iff.mp z)]
theorem vl_flip : ∀ (c : List St), vl (c.map flip) j = - vl c j
  | [] => rfl
  | s :: c => by
    rw [List.map_cons, vl, vl, vl_flip c]
    show (if s.1 = j then -s.2 else - vl c j) = _
    split <;> rfl
theorem flip_pipes (c : List St) : (c.map flip).map (·.1) = c.map (·.1) := by
  rw [List.map_map]; rfl
/-- the steps are told by the values -/
theorem mem_of_vl (h : Cyc ps c) (e : vl c j = t) (ht : t ≠ 0) : (j, t) ∈ c := by
  by_cases hm : j ∈ c.map (·.1)
  · obtain ⟨s, hs, e2⟩ := List.mem_map.mp hm
    obtain ⟨a, b⟩ := s
    have e2 : a = j := e2
    subst e2
    have := vl_mem h.pp hs
    rw [e] at this
    rw [this]; exact hs
  · rw [vl_none hm] at e
    exact absurd e.symm ht
theorem Cyc.turn (h : Cyc ps c) (hm : (j, t) ∈ c) : t = 1 ∨ t = -1 := by
  obtain ⟨u, hw⟩ := h.ex
  exact (hw.ok _ hm).2
theorem walk_uniq {S : List St} (hS : ∀ s ∈ S, ∀ r ∈ S, near ps s = near ps r → s = r) {u : Nat} : ∀ {w v : List St} {a : Nat}, Wlk ps a w u → Wlk ps a v u → (∀ s ∈ w, s ∈ S) → (∀ s ∈ v, s ∈ S) → (∀ s ∈ w, near ps s ≠ u) → (∀ s ∈ v, near ps s ≠ u) → w = v
  | [], [], a, _, _, _, _, _, _ => rfl
  | [], s :: v, a, h1, h2, _, _, _, n2 => by
    have h1 : a = u := h1
    exact absurd (h2.2.1.trans h1) (n2 s (by simp))
  | s :: w, [], a, h1, h2, _, _, n1, _ => by
    have h2 : a = u := h2
    exact absurd (h1.2.1.trans h2) (n1 s (by simp))
  | s :: w, r :: v, a, h1, h2, m1, m2, n1, n2 => by
    have e : s = r := hS s (m1 s (by simp)) r (m2 r (by simp)) (h1.2.1.trans h2.2.1.symm)
    subst e
    rw [walk_uniq hS h1.2.2 h2.2.2 (fun x hx => m1 x (by simp [hx])) (fun x hx => m2 x (by simp [hx])) (fun x hx => n1 x (by simp [hx])) (fun x hx => n2 x (by simp [hx]))]
theorem cyc_ext {j : Nat} {w v : List St} (h1 : Cyc ps ((j, 1) :: w)) (h2 : Cyc ps ((j, 1) :: v)) (e : ∀ i, i < ps.length → vl ((j, 1) :: w) i = vl ((j, 1) :: v) i) : w = v := by
  have hsub : ∀ {w v : List St}, Cyc ps ((j, 1) :: w) → Cyc ps ((j, 1) :: v) → (∀ i, i < ps.length → vl ((j, 1) :: w) i = vl ((j, 1) :: v) i) → ∀ s ∈ w, s ∈ (j, 1) :: v := fun {w v} h1 h2 e s hs => by
    obtain ⟨u, hw⟩ := h1.ex
    have hs' : s ∈ (j, 1) :: w := List.mem_cons_of_mem _ hs
    have ho := hw.ok s hs'
    obtain ⟨a, b⟩ := s
    have := vl_mem h1.pp hs'
    rw [e a ho.1] at this
    exact mem_of_vl h2 this (by rcases ho.2 with z | z <;> (have z : b = _ := z; omega))
  have nn := h2.nn
  have inj : ∀ s ∈ (j, 1) :: v, ∀ r ∈ (j, 1) :: v, near ps s = near ps r → s = r := fun s hs r hr e => by
    obtain ⟨x, hx, ex⟩ := List.getElem_of_mem hs
    obtain ⟨y, hy, ey⟩ := List.getElem_of_mem hr
    have : x = y := by
      have h3 : (((j, 1) :: v).map (near ps))[x]'(by simpa using hx) = (((j, 1) :: v).map (near ps))[y]'(by simpa using hy) := by
        rw [List.getElem_map, List.getElem_map, ex, ey, e]
      exact (List.getElem_inj nn).mp h3
    subst this
    rw [← ex, ← ey]
  have g1 := cyc_iff.mp h1
  have g2 := cyc_iff.mp h2
  have sh : ∀ {w : List St}, Cyc ps ((j, 1) :: w) → ∀ s ∈ w, near ps s ≠ near ps (j, 1) := fun {w} h s hs z => by
    have := h.nn
    rw [List.map_cons, List.nodup_cons] at this
    exact this.1 (by rw [← z]; exact List.mem_map_of_mem hs)
  exact walk_uniq inj g1.2.1.wk g2.2.1.wk (hsub h1 h2 e) (fun s hs => List.mem_cons_of_mem _ hs) (sh h1) (sh h2)
end
end Rg

set_option linter.all false
set_option maxRecDepth 100000
namespace Rg
/-! ## rings, rings through a pipe -/
def waysB (ps : List Pipe) (ok : Nat → Nat → Bool) (k : Nat) : List (List St) := (ways ps (ok k) (far ps (k, 1)) (near ps (k, 1))).map ((k, 1) :: ·)
def gtB (k i : Nat) : Bool := decide (k < i)
def neB (k i : Nat) : Bool := i != k
def ringsL (ps : List Pipe) : List (List St) := (List.range ps.length).flatMap (waysB ps gtB)
def thr (ps : List Pipe) (p : Nat) : List (List St) := waysB ps neB p
def vals (m : Nat) (c : List St) : List Int := (List.range m).map (vl c)
def turned (m p : Nat) (c : List St) : List Int := (List.range m).map fun j => vl c p * vl c j
section
variable {ps : List Pipe} {n : Nat} {k p : Nat} {c : List St}
theorem mem_waysB (H : Web n ps) {ok : Nat → Nat → Bool} (hk : k < ps.length) (hok : ∀ i, ok k i = true → i ≠ k) : c ∈ waysB ps ok k ↔ ∃ w, c = (k, 1) :: w ∧ Cyc ps c ∧ ∀ s ∈ w, ok k s.1 = true := by
  unfold waysB
  rw [List.mem_map]
  have hf := far_lt H (s := (k, 1)) ⟨hk, .inl rfl⟩
  constructor
  · rintro ⟨w, hw, rfl⟩
    obtain ⟨h1, h2⟩ := (mem_ways H hf).mp hw
    exact ⟨w, rfl, cyc_iff.mpr ⟨hk, h1, fun s hs => hok _ (h2 s hs)⟩, h2⟩
  · rintro ⟨w, rfl, h1, h2⟩
    exact ⟨w, (mem_ways H hf).mpr ⟨(cyc_iff.mp h1).2.1, h2⟩, rfl⟩
theorem mem_thr (H : Web n ps) (hp : p < ps.length) : c ∈ thr ps p ↔ ∃ w, c = (p, 1) :: w ∧ Cyc ps c := by
  rw [thr, mem_waysB H hp (fun i h => by simpa [neB] using h)]
  constructor
  · rintro ⟨w, h1, h2, _⟩; exact ⟨w, h1, h2⟩
  · rintro ⟨w, rfl, h2⟩
    exact ⟨w, rfl, h2, fun s hs => by simpa [neB] using (cyc_iff.mp h2).2.2 s hs⟩
theorem mem_ringsL (H : Web n ps) : c ∈ ringsL ps ↔ ∃ k w, c = (k, 1) :: w ∧ Cyc ps c ∧ ∀ s ∈ w, k < s.1 := by
  unfold ringsL
  rw [List.mem_flatMap]
  constructor
  · rintro ⟨k, hk, hc⟩
    obtain ⟨w, h1, h2, h3⟩ := (mem_waysB H (List.mem_range.mp hk) (fun i h => by simp [gtB] at h; omega)).mp hc
    exact ⟨k, w, h1, h2, fun s hs => by simpa [gtB] using h3 s hs⟩
  · rintro ⟨k, w, rfl, h2, h3⟩
    have hk := (cyc_iff.mp h2).1
    exact ⟨k, List.mem_range.mpr hk, (mem_waysB H hk (fun i h => by simp [gtB] at h; omega)).mpr ⟨w, rfl, h2, fun s hs => by simpa [gtB] using h3 s hs⟩⟩
theorem waysB_nodup (H : Web n ps) {ok : Nat → Nat → Bool} : (waysB ps ok k).Nodup := by
  unfold waysB
  exact List.pairwise_map.mpr ((ways_nodup H.ne).imp fun {a b} hne e => hne (by simpa using e))
theorem ringsL_nodup (H : Web n ps) : (ringsL ps).Nodup := by
  unfold ringsL
  rw [List.Nodup, List.pairwise_flatMap]
  refine ⟨fun k _ => waysB_nodup H, ?_⟩
  refine List.nodup_range.imp fun {a b} hne x hx y hy e => ?_
  obtain ⟨u, _, rfl⟩ := List.mem_map.mp hx
  obtain ⟨v, _, rfl⟩ := List.mem_map.mp hy
  simp at e
  exact hne e.1
theorem vals_eq {m : Nat} {c d : List St} : vals m c = vals m d ↔ ∀ i, i < m → vl c i = vl d i := by
  unfold vals
  rw [List.map_inj_left]
  simp
/-- the least pipe of a ring, brought to the front the right way about -/
theorem least {c : List St} (h : Cyc ps c) : ∃ k t, (k, t) ∈ c ∧ ∀ s ∈ c, k ≤ s.1 := by
  have key : ∀ l : List St, l ≠ [] → ∃ s ∈ l, ∀ r ∈ l, s.1 ≤ r.1 := by
    intro l
    induction l with
    | nil => intro h; exact absurd rfl h
    | cons s l ih =>
      intro _
      by_cases hl : l = []
      · subst hl; exact ⟨s, by simp, by simp⟩
      · obtain ⟨r, hr, hm⟩ := ih hl
        by_cases hle : s.1 ≤ r.1
        · refine ⟨s, by simp, fun x hx => ?_⟩
          rcases List.mem_cons.mp hx with e | hx
          · rw [e]; exact Nat.le_refl _
          · exact Nat.le_trans hle (hm x hx)
        · refine ⟨r, by simp [hr], fun x hx => ?_⟩
          rcases List.mem_cons.mp hx with e | hx
          · rw [e]; omega
          · exact hm x hx
  obtain ⟨⟨k, t⟩, h1, h2⟩ := key c h.ne
  exact ⟨k, t, h1, h2⟩
/-- what a ring's front change does to its values -/
theorem front_vl {c : List St} {j : Nat} {t : Int} (h : Cyc ps c) (hs : (j, t) ∈ c) : ∃ z, Cyc ps ((j, 1) :: z) ∧ (∀ i, vl ((j, 1) :: z) i = t * vl c i) ∧ (((j, 1) :: z).map (·.1)).Perm (c.map (·.1)) := by
  rcases h.front1 hs with ⟨rfl, z, h1, h2⟩ | ⟨rfl, z, h1, h2⟩
  · exact ⟨z, h1, fun i => by rw [vl_perm h.pp h2]; omega, h2.map _⟩
  · refine ⟨z, h1, fun i => ?_, ?_⟩
    · rw [vl_perm (by rw [flip_pipes]; exact h.pp) h2, vl_flip]; omega
    · have := h2.map (·.1)
      rw [flip_pipes] at this
      exact this
theorem vl_pm {c : List St} (h : Cyc ps c) (i : Nat) : vl c i = 0 ∨ vl c i = 1 ∨ vl c i = -1 := by
  by_cases h0 : vl c i = 0
  · exact .inl h0
  · exact .inr (h.turn (mem_of_vl h rfl h0))
theorem through_perm (H : Web n ps) (hp : p < ps.length) : ((thr ps p).map (vals ps.length)).Perm (((ringsL ps).filter fun r => decide (vl r p ≠ 0)).map (turned ps.length p)) := by
  have fst : ∀ {k : Nat} {w : List St}, vl ((k, 1) :: w) k = 1 := fun {k w} => by simp [vl]
  refine (List.perm_ext_iff_of_nodup ?_ ?_).mpr fun x => ?_
  · refine List.pairwise_map.mpr ?_
    refine List.Pairwise.imp_of_mem ?_ (waysB_nodup (k := p) (ok := neB) H)
    intro a b ha hb hne e
    obtain ⟨w, rfl, h1⟩ := (mem_thr H hp).mp ha
    obtain ⟨v, rfl, h2⟩ := (mem_thr H hp).mp hb
    exact hne (by rw [cyc_ext h1 h2 (vals_eq.mp e)])
  · refine List.pairwise_map.mpr ?_
    refine List.Pairwise.imp_of_mem ?_ ((ringsL_nodup H).filter _)
    intro a b ha hb hne e
    obtain ⟨k, w, rfl, h1, h3⟩ := (mem_ringsL H).mp (List.mem_filter.mp ha).1
    obtain ⟨j, v, rfl, h2, h4⟩ := (mem_ringsL H).mp (List.mem_filter.mp hb).1
    have na : vl ((k, 1) :: w) p ≠ 0 := by simpa using (List.mem_filter.mp ha).2
    have nb : vl ((j, 1) :: v) p ≠ 0 := by simpa using (List.mem_filter.mp hb).2
    have e' : ∀ i, i < ps.length → vl ((k, 1) :: w) p * vl ((k, 1) :: w) i = vl ((j, 1) :: v) p * vl ((j, 1) :: v) i := by
      unfold turned at e
      rw [List.map_inj_left] at e
      intro i hi
      exact e i (List.mem_range.mpr hi)
    -- the least pipe of a ring is told by its values
    have low : ∀ {k j : Nat} {w v : List St}, Cyc ps ((k, 1) :: w) → Cyc ps ((j, 1) :: v) → (∀ s ∈ w, k < s.1) → vl ((j, 1) :: v) p ≠ 0 → (∀ i, i < ps.length → vl ((k, 1) :: w) p * vl ((k, 1) :: w) i = vl ((j, 1) :: v) p * vl ((j, 1) :: v) i) → k ≤ j := fun {k j w v} h1 h2 h3 nb e' => by
      have hj := (cyc_iff.mp h2).1
      have ej := e' j hj
      rw [fst, Int.mul_one] at ej
      have : vl ((k, 1) :: w) j ≠ 0 := fun z => by rw [z, Int.mul_zero] at ej; exact nb ej.symm
      have hm := mem_of_vl h1 rfl this
      rcases List.mem_cons.mp hm with q | q
      · have : j = k := congrArg Prod.fst q
        omega
      · exact Nat.le_of_lt (h3 _ q)
    have ekj : k = j := Nat.le_antisymm (low h1 h2 h3 nb e') (low h2 h1 h4 na fun i hi => (e' i hi).symm)
    subst ekj
    have hk := (cyc_iff.mp h1).1
    have ek := e' k hk
    rw [fst, fst, Int.mul_one, Int.mul_one] at ek
    have := cyc_ext h1 h2 fun i hi => by
      have := e' i hi
      rw [ek] at this
      exact Int.eq_of_mul_eq_mul_left nb this
    exact hne (by rw [this])
  · rw [List.mem_map, List.mem_map]
    constructor
    · rintro ⟨c, hc, rfl⟩
      obtain ⟨w, rfl, h1⟩ := (mem_thr H hp).mp hc
      obtain ⟨k, t, hk, hmin⟩ := least h1
      obtain ⟨z, h2, h3, h4⟩ := front_vl h1 hk
      have ht := h1.turn hk
      refine ⟨(k, 1) :: z, List.mem_filter.mpr ⟨(mem_ringsL H).mpr ⟨k, z, rfl, h2, fun s hs => ?_⟩, ?_⟩, ?_⟩
      · have hs1 : s.1 ∈ ((k, 1) :: z).map (·.1) := List.mem_map_of_mem (f := fun x : St => x.1) (List.mem_cons_of_mem _ hs)
        obtain ⟨r, hr, er⟩ := List.mem_map.mp (h4.mem_iff.mp hs1)
        have hle := hmin r hr
        have hne := (cyc_iff.mp h2).2.2 s hs
        have er : r.1 = s.1 := er
        omega
      · have := h3 p
        rw [fst, Int.mul_one] at this
        rw [this]
        rcases ht with z | z <;> simp [z]
      · unfold turned vals
        refine List.map_congr_left fun i hi => ?_
        rw [h3, h3, fst]
        rcases ht with z | z <;> rw [z] <;> omega
    · rintro ⟨r, hr, rfl⟩
      obtain ⟨hr1, hr2⟩ := List.mem_filter.mp hr
      obtain ⟨k, w, rfl, h1, h3⟩ := (mem_ringsL H).mp hr1
      have n0 : vl ((k, 1) :: w) p ≠ 0 := by simpa using hr2
      have hm := mem_of_vl h1 rfl n0
      obtain ⟨z, h2, h4, h5⟩ := front_vl h1 hm
      refine ⟨(p, 1) :: z, (mem_thr H hp).mpr ⟨z, rfl, h2⟩, ?_⟩
      unfold turned vals
      exact List.map_congr_left fun i hi => h4 i
end
end Rg

set_option Elab.async false
set_option linter.all false
set_option maxRecDepth 100000
set_option maxHeartbeats 4000000
set_option exponentiation.threshold 20000
namespace DL
open PySem PySem.Spec PyProof.Rows L2 PLn Rg

/-! ## rings and ways: the defs that laws share -/
def fdLeaving : FD := ⟨1, 6, none, [.set 1 (.ncm (.pack false []) (.name 3) 1 [.prim .ix [.var 0, .cst (.int 0)]] [] [3]), .fer (.tup [.name 2, .tup [.name 4, .name 5]]) 4 [.prim .ix [.var 0, .cst (.int 1)]] [.nap 1 (.var 4) (.pack true [.var 2, .cst (.int 1), .var 5]), .nap 1 (.var 5) (.pack true [.var 2, .prim .neg [.cst (.int 1)], .var 4])], .ret (.frz 1)]⟩
def fdValuesBy : FD := ⟨2, 5, none, [.set 2 (.prim .mul [.pack false [.cst (.int 0)], .var 0]), .fer (.tup [.name 3, .name 4]) 0 [.var 1] [.setix 2 (.var 3) (.var 4)], .ret (.prim .tup [.var 2])]⟩
def fdWaysAm (fLv : Nat) : FD := ⟨4, 13, none, [.set 4 (.call fLv none [0] [.var 0]), .set 5 (.pack false []), .set 6 (.pack false [.pack true [.pack true [], .pack true [.var 1]]]), .whl (.var 6) [.asg (.tup [.name 7, .name 8]) (.mth .pop 6 []), .fer (.tup [.name 9, .name 10, .name 11]) 0 [.prim .ix [.var 4, .prim .ix [.var 8, .prim .neg [.cst (.int 1)]]]] [.ite (.and (.prim .ix [.var 3, .var 9]) (.prim .notin [.var 11, .var 8])) [.set 12 (.prim .add [.var 7, .pack true [.pack true [.var 9, .var 10]]]), .ite (.prim .eq [.var 11, .var 2]) [.app 5 (.var 12)] [.app 6 (.pack true [.var 12, .prim .add [.var 8, .pack true [.var 11]]])]] []]], .ret (.prim .srt [.var 5])]⟩
def fdRings (fWa : Nat) : FD := ⟨1, 8, none, [.set 1 (.pack false []), .fer (.tup [.name 2, .tup [.name 5, .name 6]]) 4 [.prim .ix [.var 0, .cst (.int 1)]] [.set 3 (.comp (.prim .gt [.var 7, .var 2]) (.name 7) 1 [.prim .len [.prim .ix [.var 0, .cst (.int 1)]]] [] [7]), .fer (.name 4) 0 [.call fWa none [0, 1, 2, 3] [.var 0, .var 6, .var 5, .var 3]] [.app 1 (.prim .add [.pack true [.pack true [.var 2, .cst (.int 1)]], .var 4])]], .ret (.prim .tup [.var 1])]⟩
def fdThrough (fVb fWa : Nat) : FD := ⟨2, 9, none, [.set 2 (.prim .len [.prim .ix [.var 0, .cst (.int 1)]]), .asg (.tup [.name 5, .name 6]) (.prim .ix [.prim .ix [.var 0, .cst (.int 1)], .var 1]), .set 3 (.comp (.prim .ne [.var 7, .var 1]) (.name 7) 1 [.var 2] [] [7]), .set 4 (.comp (.call fVb none [0, 1] [.var 2, .prim .add [.pack true [.pack true [.var 1, .cst (.int 1)]], .var 8]]) (.name 8) 0 [.call fWa none [0, 1, 2, 3] [.var 0, .var 6, .var 5, .var 3]] [] [8]), .ret (.prim .tup [.prim .srt [.var 4]])]⟩
def fdSameB (fSm : Nat) : FD := ⟨2, 3, none, [.ite (.prim .iz [.var 1, .cst .non]) [.ret (.prim .iz [.var 0, .cst .non])] [], .ite (.or (.prim (.ist 1) [.var 1]) (.prim (.ist 1) [.var 0])) [.ret (.and (.prim (.ist 1) [.var 1]) (.and (.prim (.ist 1) [.var 0]) (.prim .eq [.var 0, .var 1])))] [], .ite (.prim (.ist 0) [.var 1]) [.ret (.and (.prim (.ist 0) [.var 0]) (.prim .eq [.var 0, .var 1]))] [], .ite (.prim (.ist 2) [.var 1]) [.ret (.and (.prim (.ist 2) [.var 0]) (.prim .eq [.var 0, .var 1]))] [], .ite (.or (.not (.prim (.ist 3) [.var 1])) (.or (.not (.prim (.ist 3) [.var 0])) (.prim .ne [.prim .len [.var 0], .prim .len [.var 1]]))) [.ret (.cst (.bl false))] [], .fer (.name 2) 1 [.prim .len [.var 1]] [.ite (.not (.call fSm none [0, 1] [.prim .ix [.var 0, .var 2], .prim .ix [.var 1, .var 2]])) [.ret (.cst (.bl false))] []], .ret (.cst (.bl true))]⟩
def fdLSteps : FD := ⟨2, 4, none, [.set 2 (.pack false []), .fer (.name 3) 1 [.prim .len [.prim .ix [.var 0, .cst (.int 1)]]] [.ite (.prim .eq [.prim .ix [.prim .ix [.prim .ix [.var 0, .cst (.int 1)], .var 3], .cst (.int 0)], .var 1]) [.app 2 (.pack true [.pack true [.var 3, .cst (.int 1)], .prim .ix [.prim .ix [.prim .ix [.var 0, .cst (.int 1)], .var 3], .cst (.int 1)]])] [], .ite (.prim .eq [.prim .ix [.prim .ix [.prim .ix [.var 0, .cst (.int 1)], .var 3], .cst (.int 1)], .var 1]) [.app 2 (.pack true [.pack true [.var 3, .prim .neg [.cst (.int 1)]], .prim .ix [.prim .ix [.prim .ix [.var 0, .cst (.int 1)], .var 3], .cst (.int 0)]])] []], .retv 2]⟩
def fdLWays (fSt : Nat) : FD := ⟨4, 12, none, [.par [5, 6] [.pack false [], .pack false [.pack true [.pack true [], .var 1, .pack true [.var 1]]]], .fer (.name 4) 1 [.cst (.int 200000)] [.ite (.prim .eq [.var 6, .pack false []]) [.brk] [], .asg (.tup [.name 7, .name 8, .name 9]) (.mth .pop 6 []), .ite (.prim .eq [.var 8, .var 2]) [.app 5 (.var 7)] [.fer (.tup [.name 10, .name 11]) 0 [.call fSt none [0, 1] [.var 0, .var 8]] [.ite (.and (.prim .gt [.prim .ix [.var 10, .cst (.int 0)], .var 3]) (.prim .notin [.var 11, .var 9])) [.app 6 (.pack true [.prim .add [.var 7, .pack true [.var 10]], .var 11, .prim .add [.var 9, .pack true [.var 11]]])] []]]], .ret (.prim .srt [.var 5])]⟩
def fdLRings (fWy : Nat) : FD := ⟨1, 6, none, [.set 1 (.pack false []), .fer (.name 2) 1 [.prim .len [.prim .ix [.var 0, .cst (.int 1)]]] [.asg (.tup [.name 3, .name 4]) (.prim .ix [.prim .ix [.var 0, .cst (.int 1)], .var 2]), .set 1 (.prim .add [.var 1, .comp (.prim .add [.pack true [.pack true [.var 2, .cst (.int 1)]], .var 5]) (.name 5) 0 [.call fWy none [0, 1, 2, 3] [.var 0, .var 4, .var 3, .var 2]] [] [5]])], .ret (.prim .srt [.var 1])]⟩
def fdLThr : FD := ⟨3, 9, none, [.set 3 (.pack false []), .fer (.name 4) 0 [.var 1] [.set 5 (.comp (.cst (.int 0)) (.name 8) 0 [.prim .ix [.var 0, .cst (.int 1)]] [] [8]), .fer (.tup [.name 6, .name 7]) 0 [.var 4] [.setix 5 (.var 6) (.var 7)], .ite (.prim .ne [.prim .ix [.var 5, .var 2], .cst (.int 0)]) [.app 3 (.prim .tup [.comp (.prim .mul [.prim .ix [.var 5, .var 2], .var 6]) (.name 6) 0 [.var 5] [] [6]])] []], .ret (.prim .tup [.prim .srt [.var 3]])]⟩
abbrev stD (s : Rg.St) : D := .tup [.int (s.1 : Nat), .int s.2]
def wayD (w : List Rg.St) : D := .tup (w.map stD)
abbrev outD (o : Nat × Int × Nat) : D := .tup [.int (o.1 : Nat), .int o.2.1, .int (o.2.2 : Nat)]
def leavingD (n : Nat) (ps : List Pipe) : D := .lst ((List.range n).map fun h => .lst ((outs ps h).map outD))
theorem WebOk.web {n : Nat} {ps : List Pipe} (h : WebOk n ps) : Web n ps := ⟨h.hi, h.len, h.a, h.b, h.ne⟩
@[simp] theorem items_4t (xs : List D) : items 4 [.tup xs] = some (enumD 0 xs) := rfl
@[simp] theorem items_4l (xs : List D) : items 4 [.lst xs] = some (enumD 0 xs) := rfl
theorem enm_get : ∀ {ds : List D} {k i : Nat} {d : D}, (enumD k ds)[i]? = some d → ∃ e, ds[i]? = some e ∧ d = .tup [.int ((k + i : Nat) : Int), e]
  | [], k, i, d, h => by simp [enumD] at h
  | e :: ds, k, 0, d, h => by
    simp [enumD] at h
    exact ⟨e, rfl, by simp [← h]⟩
  | e :: ds, k, i + 1, d, h => by
    rw [enumD] at h
    obtain ⟨e', h1, h2⟩ := enm_get (k := k + 1) (show (enumD (k + 1) ds)[i]? = some d by simpa using h)
    refine ⟨e', by simpa using h1, ?_⟩
    rw [h2, show k + 1 + i = k + (i + 1) by omega]
theorem enm_len : ∀ {ds : List D} {k : Nat}, (enumD k ds).length = ds.length
  | [], k => rfl
  | e :: ds, k => by rw [enumD, List.length_cons, List.length_cons, enm_len]
/-- rows under way -/
def cellsF (n : Nat) (f : Nat → List (Nat × Int × Nat)) : List Cl := (List.range n).map fun h => .o ((f h).map outD)
theorem cellsF_len {n : Nat} {f : Nat → List (Nat × Int × Nat)} : (cellsF n f).length = n := by simp [cellsF]
theorem cellsF_get {n : Nat} {f : Nat → List (Nat × Int × Nat)} {a : Nat} (h : a < n) : (cellsF n f)[a]? = some (.o ((f a).map outD)) := by
  simp [cellsF, h]
theorem cellsF_put {n : Nat} {f : Nat → List (Nat × Int × Nat)} {a : Nat} {o : Nat × Int × Nat} : (cellsF n f).set a (.o ((f a).map outD ++ [outD o])) = cellsF n fun h => if h = a then f h ++ [o] else f h := by
  refine List.ext_getElem? fun j => ?_
  by_cases hj : j = a
  · subst hj
    by_cases hl : j < n
    · rw [List.getElem?_set_self (by rw [cellsF_len]; exact hl), cellsF_get hl]
      simp
    · rw [List.getElem?_eq_none (by rw [List.length_set, cellsF_len]; omega), List.getElem?_eq_none (by rw [cellsF_len]; omega)]
  · rw [List.getElem?_set_ne (Ne.symm hj)]
    by_cases hl : j < n
    · rw [cellsF_get hl, cellsF_get hl]
      simp [hj]
    · rw [List.getElem?_eq_none (by rw [cellsF_len]; omega), List.getElem?_eq_none (by rw [cellsF_len]; omega)]
theorem outsF_snoc {h : Nat} {p : Pipe} : ∀ {ps : List Pipe} {k : Nat}, outsF h k (ps ++ [p]) = outsF h k ps ++ ((if p.1 = h then [(k + ps.length, 1, p.2)] else []) ++ (if p.2 = h then [(k + ps.length, -1, p.1)] else []))
  | [], k => by simp [outsF]
  | q :: ps, k => by
    rw [List.cons_append, outsF, outsF, outsF_snoc]
    simp only [List.append_assoc, List.length_cons]
    rw [show k + 1 + ps.length = k + (ps.length + 1) by omega]
theorem outsF_len {h : Nat} : ∀ {ps : List Pipe} {k : Nat}, (outsF h k ps).length ≤ 2 * ps.length
  | [], k => by simp [outsF]
  | p :: ps, k => by
    have := outsF_len (h := h) (ps := ps) (k := k + 1)
    rw [outsF, List.length_append, List.length_append, List.length_cons]
    split <;> split <;> simp <;> omega
def LvI (n : Nat) (ps : List Pipe) (i : Nat) (l : Loc) : Prop := ∃ a b c d, l = [.val (webD n ps), .nst (cellsF n fun h => outsF h 0 (ps.take i)), a, b, c, d]
def LvA (n : Nat) (ps : List Pipe) (acc : List Cl) (l : Loc) : Prop := (∃ k, acc = List.replicate k (.o [])) ∧ ∃ a, l = [.val (webD n ps), .un, .un, a, .un, .un]
section
variable {P : Nat → Option FD} {Q : Sl × List Sl → Prop} {k n : Nat} {ps : List Pipe}
theorem leaving_run {i : Nat} (hP : P i = some fdLeaving) (H : WebOk n ps) (q : Q (.val (leavingD n ps), [.un])) : Post (callF P (k + 1) i [.val (webD n ps)]) Q := by
  rw [post_fn hP]
  have hi := H.hi
  simp [fdLeaving]
  have ew : webD n ps = .tup [.int (n : Nat), .tup (ps.map pr2)] := rfl
  simp [ew]
  rw [← ew]
  refine ⟨rgOk_ok (by omega) (by omega) (by omega) (by omega), ?_⟩
  have e2 := rgD_length 0 (n : Int)
  generalize rgD 0 (n : Int) = zs at e2
  have e3 : zs.length = n := by omega
  refine compN_inv (fun rest acc l => acc.length + rest.length = n ∧ LvA n ps acc l) ⟨by simp [e3], ⟨0, rfl⟩, .un, rfl⟩ (fun d rest acc l hh => ?_) (fun acc l hh => ?_)
  · obtain ⟨hl, ⟨m, rfl⟩, a, rfl⟩ := hh
    simp at hl
    simp [bindT]
    exact ⟨by omega, by omega, ⟨m + 1, by rw [List.replicate_succ']⟩, _, rfl⟩
  obtain ⟨hl, ⟨m, rfl⟩, a, rfl⟩ := hh
  simp at hl
  subst hl
  simp [ew]
  rw [← ew]
  have e0 : List.replicate m (Cl.o []) = cellsF m fun h => outsF h 0 (ps.take 0) := by
    refine List.ext_getElem? fun j => ?_
    by_cases hl : j < m
    · rw [cellsF_get hl, List.getElem?_replicate, if_pos hl]
      rfl
    · rw [List.getElem?_eq_none (by simp; omega), List.getElem?_eq_none (by rw [cellsF_len]; omega)]
  rw [e0]
  refine forL_ix (LvI m ps) ⟨_, _, _, _, rfl⟩ (fun i d l hd hh => ?_) (fun l hh => ?_)
  · obtain ⟨c2, c3, c4, c5, rfl⟩ := hh
    obtain ⟨e, he, rfl⟩ := enm_get hd
    rw [List.getElem?_map, Option.map_eq_some_iff] at he
    obtain ⟨p, hp, rfl⟩ := he
    have hpm := List.mem_of_getElem? hp
    have pa := H.a p hpm
    have pb := H.b p hpm
    have hne := H.ne p hpm
    have hil := (List.getElem?_eq_some_iff.mp hp).1
    have et : ps.take (i + 1) = ps.take i ++ [p] := by rw [List.take_succ, hp]; rfl
    have big : ∀ a, (outsF a 0 (ps.take i)).length ≤ 40 := fun a => by
      have h1 := outsF_len (h := a) (ps := ps.take i) (k := 0)
      have h2 := H.len
      rw [List.length_take] at h1
      omega
    have big1 := big p.1
    have big2 := big p.2
    simp [bindT, bindT.bindTs]
    rw [cellsF_len, ixN_lit pa, On_some, cellsF_get pa, On_some, OwC_o, List.length_map]
    refine ⟨by omega, ?_⟩
    rw [show (D.tup [D.int (i : Nat), D.int 1, D.int (p.2 : Nat)]) = outD (i, 1, p.2) from rfl, cellsF_put, ixN_lit pb, On_some, cellsF_get pb, On_some, OwC_o, List.length_map]
    rw [if_neg (Ne.symm hne)]
    refine ⟨by omega, ?_⟩
    rw [show (D.tup [D.int (i : Nat), D.int (-1), D.int (p.1 : Nat)]) = outD (i, -1, p.1) from rfl]
    have e5 := cellsF_put (n := m) (f := fun h => if h = p.1 then outsF h 0 (ps.take i) ++ [(i, 1, p.2)] else outsF h 0 (ps.take i)) (a := p.2) (o := (i, -1, p.1))
    rw [if_neg (Ne.symm hne)] at e5
    rw [e5]
    refine ⟨.val (.int (i : Nat)), c3, .val (.int (p.1 : Nat)), .val (.int (p.2 : Nat)), ?_⟩
    have e6 : (fun h => if h = p.2 then (if h = p.1 then outsF h 0 (ps.take i) ++ [(i, (1 : Int), p.2)] else outsF h 0 (ps.take i)) ++ [(i, (-1 : Int), p.1)] else (if h = p.1 then outsF h 0 (ps.take i) ++ [(i, (1 : Int), p.2)] else outsF h 0 (ps.take i))) = fun h => outsF h 0 (ps.take (i + 1)) := by
      funext h
      rw [et, outsF_snoc, List.length_take, Nat.min_eq_left (by omega), Nat.zero_add]
      by_cases h1 : h = p.1
      · subst h1
        rw [if_neg hne, if_pos rfl, if_pos rfl, if_neg (Ne.symm hne), List.append_nil]
      · by_cases h2 : h = p.2
        · subst h2
          rw [if_pos rfl, if_neg (Ne.symm hne), if_neg hne, if_pos rfl, List.nil_append]
        · rw [if_neg h2, if_neg h1, if_neg (Ne.symm h1), if_neg (Ne.symm h2), List.nil_append, List.append_nil]
    rw [e6]
  · obtain ⟨c2, c3, c4, c5, rfl⟩ := hh
    rw [enm_len, List.length_map, List.take_length]
    simp
    have : (cellsF m fun h => outsF h 0 ps).map Cl.d = (List.range m).map fun h => D.lst ((outs ps h).map outD) := by
      unfold cellsF
      rw [List.map_map]
      rfl
    rw [this]
    exact q
end
/-! ### the ways between two places -/
theorem flat_nats (xs : List Nat) : (xs.map fun x => D.int (x : Nat)).all flatD = true := by
  rw [List.all_eq_true]
  intro d hd
  obtain ⟨x, _, rfl⟩ := List.mem_map.mp hd
  rfl
theorem in_nats (xs : List Nat) (x : Nat) : ((xs.map fun x => D.int (x : Nat)).any fun e => eqD e (.int (x : Nat))) = xs.contains x := by
  induction xs with
  | nil => rfl
  | cons a xs ih =>
    rw [List.map_cons, List.any_cons, ih, List.contains_cons, eqD_int]
    have : decide ((a : Int) = (x : Int)) = (x == a) := by
      by_cases h : a = x
      · subst h; simp
      · have h2 : ¬ x = a := fun z => h z.symm
        rw [decide_eq_false (by omega), beq_eq_false_iff_ne.mpr h2]
    rw [this]
@[simp] theorem o_ninT (d : D) (xs : List D) {Q : Sl → Prop} : On (primD .notin [d, .tup xs]) Q ↔ (flatD d && xs.all flatD) = true ∧ Q (.val (.bl (!xs.any fun e => eqD e d))) := On_ite
theorem wayD_alike (w v : List Rg.St) : PySem.W.alikeAll (toPyL (w.map stD)) (toPyL (v.map stD)) = true := by
  induction w generalizing v with
  | nil => cases v <;> rfl
  | cons s w ih =>
    cases v with
    | nil => simp [toPyL, PySem.W.alikeAll]
    | cons r v =>
      simp [toPyL, PySem.W.alikeAll, toPy, PySem.W.alike, ih v]
theorem wayD_depth (w : List Rg.St) : (toPy (wayD w)).depth ≤ 3 := by
  unfold wayD
  have : PyData.depthAll (toPyL (w.map stD)) ≤ 2 := by
    induction w with
    | nil => simp [toPyL, PyData.depthAll]
    | cons s w ih =>
      simp only [List.map_cons, toPyL, toPy, PyData.depthAll, PyData.depth]
      omega
  simp only [toPy, PyData.depth]
  omega
theorem ways_srtOk {ws : List (List Rg.St)} (h : ∀ w ∈ ws, w ≠ []) : srtOk (ws.map wayD) = true := by
  unfold srtOk alikeD
  simp only [Bool.and_eq_true, Bool.or_eq_true, List.all_eq_true, decide_eq_true_eq]
  refine ⟨⟨fun d hd e he => ?_, .inl fun d hd => ?_⟩, fun d hd => ?_⟩
  · obtain ⟨a, _, rfl⟩ := List.mem_map.mp hd
    obtain ⟨b, _, rfl⟩ := List.mem_map.mp he
    unfold wayD
    simp only [toPy, PySem.W.alike]
    exact wayD_alike a b
  · obtain ⟨a, ha, rfl⟩ := List.mem_map.mp hd
    cases a with
    | nil => exact absurd rfl (h _ ha)
    | cons s w => rfl
  · obtain ⟨a, _, rfl⟩ := List.mem_map.mp hd
    have := wayD_depth a
    omega
/-- what is on the stack -/
def opD (o : Op) : D := .tup [wayD o.way, .tup (o.seen.map fun x => D.int (x : Nat))]
/-- bools by pipes -/
def Lets (m : Nat) (ok : Nat → Bool) (L : List D) : Prop := ∀ j, j < m → L[j]? = some (.bl (ok j))
structure WaS (n : Nat) (ps : List Pipe) (ok : Nat → Bool) (a b : Nat) (m : Nat) (found : List (List Rg.St)) (st : List Op) : Prop where
  pm : (found ++ st.flatMap fun o => o.con ps ok b).Perm (ways ps ok a b)
  oks : ∀ o ∈ st, o.ok n ∧ o.here ≠ b ∧ o.way.length + 1 ≤ o.seen.length
  ct : (st.map fun o => o.cnt ps ok b).sum ≤ m
  le : m ≤ 2794
def WaI (n : Nat) (ps : List Pipe) (ok : Nat → Bool) (a b : Nat) (L : List D) (m : Nat) (l : Loc) : Prop := ∃ found st c7 c8 c9 c10 c11 c12, WaS n ps ok a b m found st ∧
  l = [.val (webD n ps), .val (.int (a : Nat)), .val (.int (b : Nat)), .val (.lst L), .val (leavingD n ps), .own (found.map wayD), .own (st.map opD), c7, c8, c9, c10, c11, c12]
/-- what the steps pre from o have brought -/
def selF (ok : Nat → Bool) (o : Op) (pre : List (Nat × Int × Nat)) := pre.filter fun s => ok s.1 && !o.seen.contains s.2.2
def foundF (ok : Nat → Bool) (b : Nat) (o : Op) (pre : List (Nat × Int × Nat)) : List (List Rg.St) := ((selF ok o pre).filter fun s => s.2.2 == b).map fun s => o.way ++ [(s.1, s.2.1)]
def stackF (ok : Nat → Bool) (b : Nat) (o : Op) (pre : List (Nat × Int × Nat)) : List Op := ((selF ok o pre).filter fun s => !(s.2.2 == b)).map o.add
def WaJ (n : Nat) (ps : List Pipe) (ok : Nat → Bool) (a b : Nat) (L : List D) (o : Op) (found : List (List Rg.St)) (st0 : List Op) (rest : List D) (l : Loc) : Prop := ∃ pre os c9 c10 c11 c12, rest = List.map outD os ∧ outs ps o.here = pre ++ os ∧
  l = [.val (webD n ps), .val (.int (a : Nat)), .val (.int (b : Nat)), .val (.lst L), .val (leavingD n ps), .own ((found ++ foundF ok b o pre).map wayD), .own ((st0 ++ stackF ok b o pre).map opD), .val (wayD o.way), .val (.tup (o.seen.map fun x => D.int (x : Nat))), c9, c10, c11, c12]
section
variable {P : Nat → Option FD} {Q : Sl × List Sl → Prop} {k n a b : Nat} {ps : List Pipe} {ok : Nat → Bool} {L : List D}
theorem ways_ne (hab : a ≠ b) : ∀ w ∈ ways ps ok a b, w ≠ [] := fun w hw e => by
  subst e
  unfold ways at hw
  have := ((mem_paths (by simp)).mp hw).2.1
  exact hab this
theorem waysAm_run {i lv : Nat} (hP : P i = some (fdWaysAm lv)) (hl : P lv = some fdLeaving) (H : WebOk n ps) (ha : a < n) (hb : b < n) (hab : a ≠ b) (hL : Lets ps.length ok L) (q : Q (.own (srtD ((ways ps ok a b).map wayD)), [.un, .un, .un, .un])) :
    Post (callF P (k + 2) i [.val (webD n ps), .val (.int (a : Nat)), .val (.int (b : Nat)), .val (.lst L)]) Q := by
  rw [post_fn hP]
  simp [fdWaysAm]
  refine leaving_run hl H ?_
  simp
  refine whileL_inv (WaI n ps ok a b L) (m := 2794) (by unfold whileFuel; omega) ⟨[], [⟨[], [a]⟩], _, _, _, _, _, _, ⟨?_, ?_, ?_, Nat.le_refl _⟩, rfl⟩ (fun m l hh => ?_)
  · simp [Op.con, Op.here, ways]
  · intro o ho
    have : o = ⟨[], [a]⟩ := by simpa using ho
    subst this
    exact ⟨⟨by simp, by simp, by simpa using ha⟩, hab, by simp⟩
  · simp
    exact nodes_small H.ne H.len (by simp [Op.here])
  · obtain ⟨found, st, c7, c8, c9, c10, c11, c12, W, rfl⟩ := hh
    simp
    (first | refine If.hh (fun hst => ?_) (fun hst => ?_) | refine If.ha (fun hst => ?_) (fun hst => ?_) | refine If.ah (fun hst => ?_) (fun hst => ?_) | refine If.aa (fun hst => ?_) (fun hst => ?_))
    · have hst : st ≠ [] := by
        intro z; subst z; simp at hst
      obtain ⟨st0, o, rfl⟩ : ∃ st0 o, st = st0 ++ [o] := ⟨st.dropLast, st.getLast hst, (List.dropLast_concat_getLast hst).symm⟩
      obtain ⟨o1, o2, o3⟩ := W.oks o (by simp)
      have hlen := o1.len H.hi
      obtain ⟨sn, hs⟩ : ∃ sn, o.seen = sn ++ [o.here] := by
        refine ⟨o.seen.dropLast, ?_⟩
        have := (List.dropLast_concat_getLast o1.1).symm
        have e : o.here = o.seen.getLast o1.1 := by
          unfold Op.here
          rw [List.getLast?_eq_some_getLast o1.1]; rfl
        rw [e]; exact this
      have hh : o.here < n := o1.2.2 _ (by rw [hs]; simp)
      simp
      refine m_pop (es := st0.map opD) (d := opD o) (by simp) ?_
      simp [opD]
      have e1 : atI (o.seen.map fun x => D.int (x : Nat)) (-1) = some (.int (o.here : Nat)) := by
        rw [hs, List.map_append]
        exact atI_last _ _
      have e2 : atI ((List.range n).map fun h => D.lst ((outs ps h).map outD)) (o.here : Int) = some (.lst ((outs ps o.here).map outD)) := by
        rw [atI_nat']
        simp [hh]
      have el : leavingD n ps = .lst ((List.range n).map fun h => D.lst ((outs ps h).map outD)) := rfl
      simp [e1, el, e2]
      rw [← el]
      have wl : (ways ps ok a b).length ≤ 2794 := Nat.le_trans paths_len (nodes_small H.ne H.len (by simp))
      have fl : found.length ≤ 2794 := by
        have := W.pm.length_eq
        rw [List.length_append] at this
        omega
      have sl : (st0 ++ [o]).length ≤ 2794 := Nat.le_trans (len_sum fun x _ => Op.cnt_pos) (Nat.le_trans W.ct W.le)
      have ol := outsF_len (h := o.here) (ps := ps) (k := 0)
      have pl := H.len
      have dd : ∀ pre os, outs ps o.here = pre ++ os → (foundF ok b o pre).length ≤ 40 ∧ (stackF ok b o pre).length ≤ 40 := fun pre os e => by
        have : pre.length ≤ 40 := by
          have := congrArg List.length (show outsF o.here 0 ps = pre ++ os from e)
          rw [List.length_append] at this
          omega
        have h1 : (selF ok o pre).length ≤ pre.length := List.length_filter_le _ _
        constructor
        · unfold foundF; rw [List.length_map]; exact Nat.le_trans (List.length_filter_le _ _) (by omega)
        · unfold stackF; rw [List.length_map]; exact Nat.le_trans (List.length_filter_le _ _) (by omega)
      refine forL_inv (WaJ n ps ok a b L o found st0) ⟨[], outs ps o.here, c9, c10, c11, c12, rfl, rfl, by simp [foundF, stackF, selF]⟩ (fun d rest l hj => ?_) (fun l hj => ?_)
      · obtain ⟨pre, os, c9, c10, c11, c12, h1, h2, rfl⟩ := hj
        cases os with
        | nil => cases h1
        | cons s os =>
          injection h1 with h1a h1b
          subst h1a
          obtain ⟨j, t, x⟩ := s
          have hstp : Ok1 ps (j, t) ∧ near ps (j, t) = o.here ∧ far ps (j, t) = x := stp_iff.mp (mem_outs.mp (by rw [h2]; simp))
          have hj : j < ps.length := hstp.1.1
          simp
          rw [atI_nat', hL j hj]
          simp
          obtain ⟨d1, d2⟩ := dd pre _ h2
          have h3 : outs ps o.here = (pre ++ [(j, t, x)]) ++ os := by rw [h2]; simp
          -- a step that is let go
          have skip : (ok j && !o.seen.contains x) = false → ∀ c12, WaJ n ps ok a b L o found st0 rest [.val (webD n ps), .val (.int (a : Nat)), .val (.int (b : Nat)), .val (.lst L), .val (leavingD n ps), .own (found.map wayD ++ (foundF ok b o pre).map wayD), .own (st0.map opD ++ (stackF ok b o pre).map opD), .val (wayD o.way), .val (.tup (o.seen.map fun x => D.int (x : Nat))), .val (.int (j : Nat)), .val (.int t), .val (.int (x : Nat)), c12] := fun hs c12 => by
            have e5 : selF ok o (pre ++ [(j, t, x)]) = selF ok o pre := by
              unfold selF
              rw [List.filter_append, List.filter_cons_of_neg (by rw [hs]; exact Bool.false_ne_true)]
              simp
            exact ⟨pre ++ [(j, t, x)], os, .val (.int (j : Nat)), .val (.int t), .val (.int (x : Nat)), c12, h1b, h3, by
              unfold foundF stackF
              rw [e5]
              simp⟩
          (first | refine If.hh (fun hok => ?_) (fun hok => ?_) | refine If.ha (fun hok => ?_) (fun hok => ?_) | refine If.ah (fun hok => ?_) (fun hok => ?_) | refine If.aa (fun hok => ?_) (fun hok => ?_))
          · simp
            refine ⟨⟨by rfl, by simpa using flat_nats o.seen⟩, ?_⟩
            have ein := in_nats o.seen x
            simp only [List.any_map] at ein
            rw [ein]
            (first | refine If.hh (fun hsn => ?_) (fun hsn => ?_) | refine If.ha (fun hsn => ?_) (fun hsn => ?_) | refine If.ah (fun hsn => ?_) (fun hsn => ?_) | refine If.aa (fun hsn => ?_) (fun hsn => ?_))
            · have hsn : o.seen.contains x = false := by simpa using hsn
              simp [wayD]
              refine ⟨by omega, ?_⟩
              have e5 : selF ok o (pre ++ [(j, t, x)]) = selF ok o pre ++ [(j, t, x)] := by
                unfold selF
                rw [List.filter_append, List.filter_cons_of_pos (by simp only [hok, hsn]; rfl)]
                simp
              (first | refine If.hh (fun hxb => ?_) (fun hxb => ?_) | refine If.ha (fun hxb => ?_) (fun hxb => ?_) | refine If.ah (fun hxb => ?_) (fun hxb => ?_) | refine If.aa (fun hxb => ?_) (fun hxb => ?_))
              · have hxb : x = b := by
                  have : (x : Int) = b := by simpa using hxb
                  omega
                have e6 : foundF ok b o (pre ++ [(j, t, x)]) = foundF ok b o pre ++ [o.way ++ [(j, t)]] := by
                  unfold foundF
                  rw [e5, List.filter_append, List.filter_cons_of_pos (by simp [hxb])]
                  simp
                have e7 : stackF ok b o (pre ++ [(j, t, x)]) = stackF ok b o pre := by
                  unfold stackF
                  rw [e5, List.filter_append, List.filter_cons_of_neg (by simp [hxb])]
                  simp
                simp
                refine ⟨by omega, ?_⟩
                exact ⟨pre ++ [(j, t, x)], os, .val (.int (j : Nat)), .val (.int t), .val (.int (x : Nat)), .val (.tup (List.map stD o.way ++ [D.tup [D.int (j : Nat), D.int t]])), h1b, h3, by
                  rw [e6, e7]
                  simp [wayD]⟩
              · have hxb : x ≠ b := by
                  have : ¬ (x : Int) = b := by simpa using hxb
                  omega
                have e6 : foundF ok b o (pre ++ [(j, t, x)]) = foundF ok b o pre := by
                  unfold foundF
                  rw [e5, List.filter_append, List.filter_cons_of_neg (by simp [hxb])]
                  simp
                have e7 : stackF ok b o (pre ++ [(j, t, x)]) = stackF ok b o pre ++ [o.add (j, t, x)] := by
                  unfold stackF
                  rw [e5, List.filter_append, List.filter_cons_of_pos (by simp [hxb])]
                  simp
                have s1 : st0.length ≤ 2794 := by simp at sl; omega
                simp
                refine ⟨by omega, by omega, ?_⟩
                exact ⟨pre ++ [(j, t, x)], os, .val (.int (j : Nat)), .val (.int t), .val (.int (x : Nat)), .val (.tup (List.map stD o.way ++ [D.tup [D.int (j : Nat), D.int t]])), h1b, h3, by
                  rw [e6, e7]
                  simp [opD, wayD, Op.add]⟩
            · have hsn : o.seen.contains x = true := by simpa using hsn
              simp
              exact skip (by rw [hsn]; simp) _
          · simp
            exact skip (by rw [hok]; rfl) _
      · obtain ⟨pre, os, c9, c10, c11, c12, h1, h2, rfl⟩ := hj
        have : os = [] := by
          cases os with
          | nil => rfl
          | cons _ _ => cases h1
        subst this
        rw [List.append_nil] at h2
        subst h2
        simp
        have hcs := Op.con_step (ps := ps) (ok := ok) o1 H.hi o2
        have hct := Op.cnt_step (ps := ps) (ok := ok) o1 H.hi o2
        have hok := Op.nx_ok (ps := ps) (ok := ok) o1 (fun p hp => ⟨H.a p hp, H.b p hp⟩)
        have esel : selF ok o (outs ps o.here) = nexts ps ok o.here o.seen := rfl
        have hx : o.nx ps ok = (nexts ps ok o.here o.seen).map o.add := rfl
        -- what the steps from o bring
        have sp : (o.con ps ok b).Perm (foundF ok b o (outs ps o.here) ++ (stackF ok b o (outs ps o.here)).flatMap fun p => p.con ps ok b) := by
          rw [hcs, hx, List.flatMap_map]
          have := split_perm (p := fun s : Nat × Int × Nat => s.2.2 == b) (g := fun s => (o.add s).con ps ok b) (w := fun s => o.way ++ [(s.1, s.2.1)]) (l := nexts ps ok o.here o.seen) (fun s hs hb => by
            refine Op.con_goal (hok _ (List.mem_map_of_mem hs)) H.hi ?_
            rw [Op.add_here]
            exact eq_of_beq hb)
          unfold foundF stackF
          rw [esel, List.flatMap_map]
          exact this
        refine ⟨m - 1, ?_, found ++ foundF ok b o (outs ps o.here), st0 ++ stackF ok b o (outs ps o.here), .val (wayD o.way), .val (.tup (o.seen.map fun x => D.int (x : Nat))), c9, c10, c11, c12, ⟨?_, ?_, ?_, by have := W.le; omega⟩, ?_⟩
        · have := Op.cnt_pos (ps := ps) (ok := ok) (goal := b) (o := o)
          have hc := W.ct
          rw [List.map_append, List.sum_append] at hc
          simp at hc
          omega
        · have pm := W.pm
          rw [List.flatMap_append] at pm ⊢
          simp at pm
          refine List.Perm.trans ?_ pm
          rw [List.append_assoc]
          refine List.Perm.append_left _ ?_
          rw [← List.append_assoc]
          refine (List.Perm.append_right _ List.perm_append_comm).trans ?_
          rw [List.append_assoc]
          exact List.Perm.append_left _ sp.symm
        · intro p hp
          rcases List.mem_append.mp hp with hp | hp
          · exact W.oks p (by simp [hp])
          · unfold stackF at hp
            obtain ⟨s, hs, rfl⟩ := List.mem_map.mp hp
            obtain ⟨hs1, hs2⟩ := List.mem_filter.mp hs
            refine ⟨hok _ (List.mem_map_of_mem (f := o.add) hs1), ?_, ?_⟩
            · rw [Op.add_here]
              simpa using hs2
            · simp [Op.add]; omega
        · have hc := W.ct
          rw [List.map_append, List.sum_append] at hc ⊢
          simp only [List.map_cons, List.map_nil, List.sum_cons, List.sum_nil, Nat.add_zero] at hc
          have : ((stackF ok b o (outs ps o.here)).map fun p => p.cnt ps ok b).sum ≤ ((o.nx ps ok).map fun p => p.cnt ps ok b).sum := by
            unfold stackF
            rw [esel, hx, List.map_map, List.map_map]
            exact sum_filter
          omega
        · simp
    · have hst : st = [] := by simpa using hst
      subst hst
      have pm := W.pm
      simp at pm
      simp
      rw [srt_perm (ways_srtOk (ways_ne hab)) (pm.map wayD)]
      refine ⟨?_, q⟩
      exact ways_srtOk fun w hw => ways_ne hab w (pm.mem_iff.mp hw)
end
end DL

set_option Elab.async false
set_option linter.all false
set_option maxRecDepth 100000
set_option maxHeartbeats 4000000
set_option exponentiation.threshold 20000
namespace DL
open PySem PySem.Spec PyProof.Rows L2 PLn Rg

/-! ## data that can be compared -/
def ShD (m : Nat) (d : D) : Prop := PyData.canLay0 (toPy d) = true ∧ (toPy d).depth ≤ m
theorem ShD.int (m : Nat) (i : Int) : ShD m (.int i) := by simp [ShD, toPy, PyData.canLay0, PyData.depth]
theorem shL {m : Nat} : ∀ {ds : List D}, (∀ d ∈ ds, ShD m d) → PyData.canLayAll0 (toPyL ds) = true ∧ PyData.depthAll (toPyL ds) ≤ m
  | [], _ => by simp [toPyL, PyData.canLayAll0, PyData.depthAll]
  | d :: ds, h => by
    obtain ⟨h1, h2⟩ := h d (by simp)
    obtain ⟨h3, h4⟩ := shL (m := m) (ds := ds) fun e he => h e (List.mem_cons_of_mem _ he)
    simp only [toPyL, PyData.canLayAll0, PyData.depthAll, h1, h3, Bool.and_self, true_and]
    omega
theorem ShD.tup {m : Nat} {ds : List D} (h : ∀ d ∈ ds, ShD m d) : ShD (m + 1) (.tup ds) := by
  obtain ⟨h1, h2⟩ := shL h
  simp only [ShD, toPy, PyData.canLay0, PyData.depth, h1, true_and]
  omega
theorem ShD.lst {m : Nat} {ds : List D} (h : ∀ d ∈ ds, ShD m d) : ShD (m + 1) (.lst ds) := by
  obtain ⟨h1, h2⟩ := shL h
  simp only [ShD, toPy, PyData.canLay0, PyData.depth, h1, true_and]
  omega
theorem ShD.ok {m : Nat} {d : D} (h : ShD m d) (hm : m ≤ 64) : okEq d = true := by
  unfold okEq SeqAt.shaped
  rw [h.1, Bool.true_and, decide_eq_true_eq]
  have := h.2
  omega
theorem ShD.mono {m k : Nat} {d : D} (h : ShD m d) (hk : m ≤ k) : ShD k d := ⟨h.1, Nat.le_trans h.2 hk⟩
theorem eqD_nil (ds : List D) : eqD (.lst ds) (.lst []) = ds.isEmpty := by
  unfold eqD
  cases ds with
  | nil => simp [toPy, toPyL, PyData.eqv, PyData.eqvAll]
  | cons d ds => simp [toPy, toPyL, PyData.eqv, PyData.eqvAll]
theorem sh_way (w : List Rg.St) : ShD 2 (wayD w) := ShD.tup fun d hd => by
  obtain ⟨s, _, rfl⟩ := List.mem_map.mp hd
  exact ShD.tup (m := 0) fun e he => by
    simp at he
    rcases he with rfl | rfl <;> exact ShD.int _ _
theorem sh_nats (xs : List Nat) : ShD 1 (.tup (xs.map fun x => D.int (x : Nat))) := ShD.tup fun d hd => by
  obtain ⟨x, _, rfl⟩ := List.mem_map.mp hd
  exact ShD.int _ _
/-! ## the law's own ways -/
abbrev lstD (o : Nat × Int × Nat) : D := .tup [.tup [.int (o.1 : Nat), .int o.2.1], .int (o.2.2 : Nat)]
def lopD (o : Op) : D := .tup [wayD o.way, .int (o.here : Nat), .tup (o.seen.map fun x => D.int (x : Nat))]
theorem sh_lop (o : Op) : ShD 3 (lopD o) := ShD.tup fun d hd => by
  simp at hd
  rcases hd with rfl | rfl | rfl
  · exact sh_way _
  · exact ShD.int _ _
  · exact (sh_nats _).mono (by decide)
def LsI (n : Nat) (ps : List Pipe) (h : Nat) (i : Nat) (l : Loc) : Prop := ∃ c, l = [.val (webD n ps), .val (.int (h : Nat)), .own ((outsF h 0 (ps.take i)).map lstD), c]
section
variable {P : Nat → Option FD} {Q : Sl × List Sl → Prop} {k n a b h : Nat} {ps : List Pipe} {ok : Nat → Bool}
theorem pr_at {i : Nat} (hi : i < ps.length) : atI (ps.map pr2) (i : Int) = some (pr2 ps[i]) := by
  rw [atI_nat', List.getElem?_map, List.getElem?_eq_getElem hi]; rfl
theorem lsteps_run {i : Nat} (hP : P i = some fdLSteps) (H : WebOk n ps) (q : Q (.own ((outs ps h).map lstD), [.un, .un])) : Post (callF P (k + 1) i [.val (webD n ps), .val (.int (h : Nat))]) Q := by
  rw [post_fn hP]
  have hl := H.len
  have ew : webD n ps = .tup [.int (n : Nat), .tup (ps.map pr2)] := rfl
  simp [fdLSteps, ew]
  rw [← ew]
  refine ⟨rgOk_ok (by omega) (by omega) (by omega) (by omega), ?_⟩
  have g1 := fun i d => @rgD_get 0 (ps.length : Int) i d
  have g2 := rgD_length 0 (ps.length : Int)
  generalize rgD 0 (ps.length : Int) = zs at g1 g2
  refine forL_ix (LsI n ps h) ⟨_, rfl⟩ (fun i d l hd hh => ?_) (fun l hh => ?_)
  · obtain ⟨c, rfl⟩ := hh
    obtain ⟨rfl, hi⟩ := g1 _ _ hd
    have hi : i < ps.length := by omega
    have ol := outsF_len (h := h) (ps := ps.take i) (k := 0)
    have ol : (outsF h 0 (ps.take i)).length ≤ 40 := by rw [List.length_take] at ol; omega
    have et : ps.take (i + 1) = ps.take i ++ [ps[i]] := by rw [List.take_succ, List.getElem?_eq_getElem hi]; rfl
    have ne := H.ne _ (List.getElem_mem hi)
    have eo : outsF h 0 (ps.take (i + 1)) = outsF h 0 (ps.take i) ++ ((if ps[i].1 = h then [(i, 1, ps[i].2)] else []) ++ (if ps[i].2 = h then [(i, -1, ps[i].1)] else [])) := by
      rw [et, outsF_snoc, List.length_take, Nat.min_eq_left (by omega), Nat.zero_add]
    simp [ew, pr_at hi]
    rw [← ew]
    (first | refine If.hh (fun h1 => ?_) (fun h1 => ?_) | refine If.ha (fun h1 => ?_) (fun h1 => ?_) | refine If.ah (fun h1 => ?_) (fun h1 => ?_) | refine If.aa (fun h1 => ?_) (fun h1 => ?_))
    · have h1 : ps[i].1 = h := by
        have : (ps[i].1 : Int) = h := by simpa using h1
        omega
      have h2 : ¬ ps[i].2 = h := fun z => ne (h1.trans z.symm)
      rw [if_pos h1, if_neg h2] at eo
      simp [ew, pr_at hi]
      rw [← ew]
      refine ⟨by omega, ?_⟩
      rw [decide_eq_false (by omega)]
      simp
      exact ⟨.val (.int (i : Nat)), by rw [eo]; simp⟩
    · have h1 : ¬ ps[i].1 = h := by
        have : ¬ (ps[i].1 : Int) = h := by simpa using h1
        omega
      simp [ew, pr_at hi]
      rw [← ew]
      (first | refine If.hh (fun h2 => ?_) (fun h2 => ?_) | refine If.ha (fun h2 => ?_) (fun h2 => ?_) | refine If.ah (fun h2 => ?_) (fun h2 => ?_) | refine If.aa (fun h2 => ?_) (fun h2 => ?_))
      · have h2 : ps[i].2 = h := by
          have : (ps[i].2 : Int) = h := by simpa using h2
          omega
        rw [if_neg h1, if_pos h2] at eo
        simp [ew, pr_at hi]
        rw [← ew]
        refine ⟨by omega, ?_⟩
        exact ⟨.val (.int (i : Nat)), by rw [eo]; simp⟩
      · have h2 : ¬ ps[i].2 = h := by
          have : ¬ (ps[i].2 : Int) = h := by simpa using h2
          omega
        rw [if_neg h1, if_neg h2] at eo
        simp
        exact ⟨.val (.int (i : Nat)), by rw [eo]; simp⟩
  · obtain ⟨c, rfl⟩ := hh
    have : zs.length = ps.length := by omega
    rw [this, List.take_length]
    simp
    exact q
end
structure LwS (n : Nat) (ps : List Pipe) (ok : Nat → Bool) (a b : Nat) (m : Nat) (made : List (List Rg.St)) (st : List Op) : Prop where
  pm : (made ++ st.flatMap fun o => o.con ps ok b).Perm (ways ps ok a b)
  oks : ∀ o ∈ st, o.ok n ∧ o.way.length + 1 ≤ o.seen.length
  ct : (st.map fun o => o.cnt ps ok b).sum ≤ m
  le : st.length ≤ 2794
def LwI (n : Nat) (ps : List Pipe) (ok : Nat → Bool) (a b : Nat) (low : Int) (rest : List D) (l : Loc) : Prop := ∃ made st c4 c7 c8 c9 c10 c11, LwS n ps ok a b (min rest.length 2794) made st ∧
  l = [.val (webD n ps), .val (.int (a : Nat)), .val (.int (b : Nat)), .val (.int low), c4, .own (made.map wayD), .own (st.map lopD), c7, c8, c9, c10, c11]
def lstackF (ok : Nat → Bool) (o : Op) (pre : List (Nat × Int × Nat)) : List Op := (selF ok o pre).map o.add
def LwJ (n : Nat) (ps : List Pipe) (ok : Nat → Bool) (a b : Nat) (low : Int) (o : Op) (made : List (List Rg.St)) (st0 : List Op) (rest : List D) (l : Loc) : Prop := ∃ pre os c4 c10 c11, rest = List.map lstD os ∧ outs ps o.here = pre ++ os ∧
  l = [.val (webD n ps), .val (.int (a : Nat)), .val (.int (b : Nat)), .val (.int low), c4, .own (made.map wayD), .own ((st0 ++ lstackF ok o pre).map lopD), .val (wayD o.way), .val (.int (o.here : Nat)), .val (.tup (o.seen.map fun x => D.int (x : Nat))), c10, c11]
section
variable {P : Nat → Option FD} {Q : Sl × List Sl → Prop} {k n a b h : Nat} {ps : List Pipe} {ok : Nat → Bool} {low : Int}
theorem lways_run {i st : Nat} (hP : P i = some (fdLWays st)) (hs : P st = some fdLSteps) (H : WebOk n ps) (ha : a < n) (hb : b < n) (hab : a ≠ b) (hok : ∀ j : Nat, ok j = decide (low < (j : Int))) (q : Q (.own (srtD ((ways ps ok a b).map wayD)), [.un, .un, .un, .un])) :
    Post (callF P (k + 2) i [.val (webD n ps), .val (.int (a : Nat)), .val (.int (b : Nat)), .val (.int low)]) Q := by
  rw [post_fn hP]
  simp [fdLWays]
  refine ⟨by decide +kernel, ?_⟩
  have e2 := rgD_length 0 200000
  generalize rgD 0 200000 = zs at e2
  have e3 : zs.length = 200000 := by omega
  -- behind the loop
  have fin : ∀ (made : List (List Rg.St)) c4 c7 c8 c9 c10 c11 s6, made.Perm (ways ps ok a b) → Post (exB (callF P (k + 1)) [.ret (.prim .srt [.var 5])] [.val (webD n ps), .val (.int (a : Nat)), .val (.int (b : Nat)), .val (.int low), c4, .own (made.map wayD), s6, c7, c8, c9, c10, c11]) (endQ 4 none Q) := fun made c4 c7 c8 c9 c10 c11 s6 pm => by
    simp
    rw [srt_perm (ways_srtOk (ways_ne hab)) (pm.map wayD)]
    exact ⟨ways_srtOk fun w hw => ways_ne hab w (pm.mem_iff.mp hw), q⟩
  generalize hR : [S.ret (E.prim Prim.srt [E.var 5])] = R at fin ⊢
  refine forL_inv (LwI n ps ok a b low) ⟨[], [⟨[], [a]⟩], _, _, _, _, _, _, ⟨?_, ?_, ?_, by simp⟩, rfl⟩ (fun d rest l hh => ?_) (fun l hh => ?_)
  · simp [Op.con, Op.here, ways]
  · intro o ho
    have : o = ⟨[], [a]⟩ := by simpa using ho
    subst this
    exact ⟨⟨by simp, by simp, by simpa using ha⟩, by simp⟩
  · rw [e3]
    simp
    exact nodes_small H.ne H.len (by simp [Op.here])
  · obtain ⟨made, st, c4, c7, c8, c9, c10, c11, W, rfl⟩ := hh
    simp
    refine ⟨⟨(ShD.lst (m := 3) fun d hd => ?_).ok (by decide), by decide +kernel⟩, ?_⟩
    · obtain ⟨o, _, rfl⟩ := List.mem_map.mp hd
      exact sh_lop o
    rw [eqD_nil]
    (first | refine If.hh (fun hst => ?_) (fun hst => ?_) | refine If.ha (fun hst => ?_) (fun hst => ?_) | refine If.ah (fun hst => ?_) (fun hst => ?_) | refine If.aa (fun hst => ?_) (fun hst => ?_))
    · have hst : st = [] := by simpa using hst
      subst hst
      have pm := W.pm
      simp at pm
      simp
      exact fin _ _ _ _ _ _ _ _ pm
    have hst : st ≠ [] := by
      intro z; subst z; simp at hst
    obtain ⟨st0, o, rfl⟩ : ∃ st0 o, st = st0 ++ [o] := ⟨st.dropLast, st.getLast hst, (List.dropLast_concat_getLast hst).symm⟩
    obtain ⟨o1, o3⟩ := W.oks o (by simp)
    have hlen := o1.len H.hi
    have sl : (st0 ++ [o]).length ≤ 2794 := W.le
    have hh : o.here < n := by
      unfold Op.here
      rw [List.getLast?_eq_some_getLast o1.1]
      exact o1.2.2 _ (List.getLast_mem _)
    have hc := W.ct
    rw [List.map_append, List.sum_append, List.length_cons] at hc
    simp only [List.map_cons, List.map_nil, List.sum_cons, List.sum_nil, Nat.add_zero] at hc
    have pm := W.pm
    rw [List.flatMap_append] at pm
    simp only [List.flatMap_cons, List.flatMap_nil, List.append_nil] at pm
    have wl : (ways ps ok a b).length ≤ 2794 := Nat.le_trans paths_len (nodes_small H.ne H.len (by simp))
    have fl : made.length ≤ 2794 := by
      have := W.pm.length_eq
      rw [List.length_append] at this
      omega
    simp
    refine m_pop (es := st0.map lopD) (d := lopD o) (by simp) ?_
    simp [lopD]
    (first | refine If.hh (fun hg => ?_) (fun hg => ?_) | refine If.ha (fun hg => ?_) (fun hg => ?_) | refine If.ah (fun hg => ?_) (fun hg => ?_) | refine If.aa (fun hg => ?_) (fun hg => ?_))
    · have hg : o.here = b := by
        have : (o.here : Int) = b := by simpa using hg
        omega
      simp
      refine ⟨by omega, made ++ [o.way], st0, .val d, .val (wayD o.way), .val (.int (o.here : Nat)), .val (.tup (o.seen.map fun x => D.int (x : Nat))), c10, c11, ⟨?_, fun p hp => W.oks p (by simp [hp]), ?_, by simp at sl; omega⟩, by simp [lopD]⟩
      · rw [Op.con_goal o1 H.hi hg] at pm
        rw [List.append_assoc]
        exact (List.Perm.append_left _ List.perm_append_comm).trans pm
      · have := Op.cnt_pos (ps := ps) (ok := ok) (goal := b) (o := o)
        omega
    have hg : o.here ≠ b := by
      have : ¬ (o.here : Int) = b := by simpa using hg
      omega
    have hcs := Op.con_step (ps := ps) (ok := ok) o1 H.hi hg
    have hct := Op.cnt_step (ps := ps) (ok := ok) o1 H.hi hg
    have hnx := Op.nx_ok (ps := ps) (ok := ok) o1 (fun p hp => ⟨H.a p hp, H.b p hp⟩)
    have esel : selF ok o (outs ps o.here) = nexts ps ok o.here o.seen := rfl
    have hx : o.nx ps ok = (nexts ps ok o.here o.seen).map o.add := rfl
    have ol := outsF_len (h := o.here) (ps := ps) (k := 0)
    have pl := H.len
    have dd : ∀ pre os, outs ps o.here = pre ++ os → (lstackF ok o pre).length ≤ 40 := fun pre os e => by
      have : pre.length ≤ 40 := by
        have := congrArg List.length (show outsF o.here 0 ps = pre ++ os from e)
        rw [List.length_append] at this
        omega
      unfold lstackF
      rw [List.length_map]
      exact Nat.le_trans (List.length_filter_le _ _) this
    simp
    refine lsteps_run hs H ?_
    simp
    refine forL_inv (LwJ n ps ok a b low o made st0) ⟨[], outs ps o.here, .val d, c10, c11, rfl, rfl, by simp [lstackF, selF, lopD]⟩ (fun e os' l hj => ?_) (fun l hj => ?_)
    · obtain ⟨pre, os, c4, c10, c11, h1, h2, rfl⟩ := hj
      cases os with
      | nil => cases h1
      | cons s os =>
        injection h1 with h1a h1b
        subst h1a
        obtain ⟨j, t, x⟩ := s
        have h3 : outs ps o.here = (pre ++ [(j, t, x)]) ++ os := by rw [h2]; simp
        have d1 := dd pre _ h2
        have skip : (ok j && !o.seen.contains x) = false → LwJ n ps ok a b low o made st0 os' [.val (webD n ps), .val (.int (a : Nat)), .val (.int (b : Nat)), .val (.int low), c4, .own (made.map wayD), .own (st0.map lopD ++ (lstackF ok o pre).map lopD), .val (wayD o.way), .val (.int (o.here : Nat)), .val (.tup (o.seen.map fun x => D.int (x : Nat))), .val (.tup [.int (j : Nat), .int t]), .val (.int (x : Nat))] := fun hs => by
          have e5 : selF ok o (pre ++ [(j, t, x)]) = selF ok o pre := by
            unfold selF
            rw [List.filter_append, List.filter_cons_of_neg (by rw [hs]; exact Bool.false_ne_true)]
            simp
          exact ⟨pre ++ [(j, t, x)], os, c4, .val (.tup [.int (j : Nat), .int t]), .val (.int (x : Nat)), h1b, h3, by
            unfold lstackF
            rw [e5]
            simp⟩
        simp
        rw [← hok j]
        (first | refine If.hh (fun hj => ?_) (fun hj => ?_) | refine If.ha (fun hj => ?_) (fun hj => ?_) | refine If.ah (fun hj => ?_) (fun hj => ?_) | refine If.aa (fun hj => ?_) (fun hj => ?_))
        · simp
          refine ⟨⟨by rfl, by simpa using flat_nats o.seen⟩, ?_⟩
          have ein := in_nats o.seen x
          simp only [List.any_map] at ein
          rw [ein]
          (first | refine If.hh (fun hsn => ?_) (fun hsn => ?_) | refine If.ha (fun hsn => ?_) (fun hsn => ?_) | refine If.ah (fun hsn => ?_) (fun hsn => ?_) | refine If.aa (fun hsn => ?_) (fun hsn => ?_))
          · have hsn : o.seen.contains x = false := by simpa using hsn
            have e5 : selF ok o (pre ++ [(j, t, x)]) = selF ok o pre ++ [(j, t, x)] := by
              unfold selF
              rw [List.filter_append, List.filter_cons_of_pos (by simp only [hj, hsn]; rfl)]
              simp
            have s1 : st0.length ≤ 2794 := by simp at sl; omega
            simp [wayD]
            refine ⟨by omega, by omega, by omega, ?_⟩
            exact ⟨pre ++ [(j, t, x)], os, c4, .val (.tup [.int (j : Nat), .int t]), .val (.int (x : Nat)), h1b, h3, by
              unfold lstackF
              rw [e5]
              simp [lopD, wayD, Op.add]
              simp [Op.here]⟩
          · have hsn : o.seen.contains x = true := by simpa using hsn
            simp
            exact skip (by rw [hsn]; simp)
        · simp
          exact skip (by rw [hj]; rfl)
    · obtain ⟨pre, os, c4, c10, c11, h1, h2, rfl⟩ := hj
      have : os = [] := by
        cases os with
        | nil => rfl
        | cons _ _ => cases h1
      subst this
      rw [List.append_nil] at h2
      subst h2
      simp
      have e8 : lstackF ok o (outs ps o.here) = o.nx ps ok := rfl
      have hcnt : ((o.nx ps ok).map fun p => p.cnt ps ok b).sum + 1 = o.cnt ps ok b := by rw [hct]; omega
      have hnl : (o.nx ps ok).length ≤ ((o.nx ps ok).map fun p => p.cnt ps ok b).sum := len_sum fun x _ => Op.cnt_pos
      have hsl : st0.length ≤ (st0.map fun p => p.cnt ps ok b).sum := len_sum fun x _ => Op.cnt_pos
      refine ⟨made, st0 ++ lstackF ok o (outs ps o.here), c4, .val (wayD o.way), .val (.int (o.here : Nat)), .val (.tup (o.seen.map fun x => D.int (x : Nat))), c10, c11, ⟨?_, ?_, ?_, ?_⟩, by simp⟩
      · rw [List.flatMap_append, e8, ← hcs]
        exact pm
      · intro p hp
        rcases List.mem_append.mp hp with hp | hp
        · exact W.oks p (by simp [hp])
        · refine ⟨hnx p hp, ?_⟩
          obtain ⟨s, _, rfl⟩ := List.mem_map.mp hp
          simp [Op.add]; omega
      · rw [List.map_append, List.sum_append, e8]
        omega
      · rw [List.length_append, e8]
        omega
  · obtain ⟨made, st, c4, c7, c8, c9, c10, c11, W, rfl⟩ := hh
    have hst : st = [] := by
      have := len_sum (g := fun o : Op => o.cnt ps ok b) (l := st) fun x _ => Op.cnt_pos
      have h2 := W.ct
      simp at h2
      exact List.eq_nil_of_length_eq_zero (by omega)
    subst hst
    have pm := W.pm
    simp at pm
    rw [seqQ_nx]
    exact fin _ _ _ _ _ _ _ _ pm
end
end DL

set_option Elab.async false
set_option linter.all false
set_option maxRecDepth 100000
set_option maxHeartbeats 4000000
set_option exponentiation.threshold 20000
namespace DL
open PySem PySem.Spec PyProof.Rows L2 PLn Rg PySem.W

/-! ## rings as data -/
def stOf : D → Rg.St
  | .tup [.int a, .int b] => (a.toNat, b)
  | _ => (0, 0)
def wayOf : D → List Rg.St
  | .tup ds => ds.map stOf
  | _ => []
theorem wayOf_wayD (w : List Rg.St) : wayOf (wayD w) = w := by
  unfold wayD wayOf
  dsimp only
  rw [List.map_map]
  have : w.map (stOf ∘ stD) = w.map id := List.map_congr_left fun s _ => by simp [stOf]
  rw [this, List.map_id]
/-- the ways behind pipe k, sorted -/
def SW (ps : List Pipe) (ok : Nat → Nat → Bool) (k : Nat) : List D := srtD ((ways ps (ok k) (far ps (k, 1)) (near ps (k, 1))).map wayD)
theorem SW_lists (ps : List Pipe) (ok : Nat → Nat → Bool) (k : Nat) : ∃ W : List (List Rg.St), SW ps ok k = W.map wayD ∧ W.Perm (ways ps (ok k) (far ps (k, 1)) (near ps (k, 1))) := perm_back wayOf wayOf_wayD (srtD_perm _)
def SWl (ps : List Pipe) (ok : Nat → Nat → Bool) (k : Nat) : List (List Rg.St) := (SW ps ok k).map wayOf
theorem SWl_ok (ps : List Pipe) (ok : Nat → Nat → Bool) (k : Nat) : SW ps ok k = (SWl ps ok k).map wayD ∧ (SWl ps ok k).Perm (ways ps (ok k) (far ps (k, 1)) (near ps (k, 1))) := by
  obtain ⟨W, h1, h2⟩ := SW_lists ps ok k
  have e : SWl ps ok k = W := by
    unfold SWl
    rw [h1, List.map_map]
    have : W.map (wayOf ∘ wayD) = W.map id := List.map_congr_left fun w _ => wayOf_wayD w
    rw [this, List.map_id]
  rw [e]; exact ⟨h1, h2⟩
/-- rings as listed: by their least pipes, sorted -/
def ringsS (ps : List Pipe) : List (List Rg.St) := (List.range ps.length).flatMap fun k => (SWl ps gtB k).map ((k, 1) :: ·)
theorem ringsS_perm (ps : List Pipe) : (ringsS ps).Perm (ringsL ps) := by
  unfold ringsS ringsL
  have : ∀ l : List Nat, (l.flatMap fun k => (SWl ps gtB k).map ((k, (1 : Int)) :: ·)).Perm (l.flatMap (waysB ps gtB)) := by
    intro l
    induction l with
    | nil => simp
    | cons k l ih =>
      rw [List.flatMap_cons, List.flatMap_cons]
      exact ((SWl_ok ps gtB k).2.map _).append ih
  exact this _
theorem leD_cons {x : D} {xs ys : List D} (h : leD (.tup xs) (.tup ys) = true) : leD (.tup (x :: xs)) (.tup (x :: ys)) = true := by
  rw [leD_eq] at h ⊢
  have e : dataLt (toPy (.tup (x :: ys))) (toPy (.tup (x :: xs))) = dataLt (toPy (.tup ys)) (toPy (.tup xs)) := by
    simp only [toPy, toPyL]
    rw [dataLt_tuple, dataLt_tuple, toks_all_cons, toks_all_cons]
    have := lex_pre (Sum.inl 1 :: keyToks (toPy x)) (keyToksAll (toPyL ys)) (keyToksAll (toPyL xs))
    simpa using this
  rw [e]; exact h
theorem leD_first {k j : Nat} {xs ys : List D} (h : k < j) : leD (.tup (stD (k, 1) :: xs)) (.tup (stD (j, 1) :: ys)) = true := by
  rw [leD_eq]
  simp only [toPy, toPyL]
  rw [dataLt_tuple, dataLt_all_no (by simp [alike, alikeAll]) (by simp [PyData.eqv, PyData.eqvAll]; omega), dataLt_ii]
  simp
  omega
theorem ringsS_sorted (ps : List Pipe) : ((ringsS ps).map wayD).Pairwise fun a b => leD a b = true := by
  rw [List.pairwise_map]
  unfold ringsS
  rw [List.pairwise_flatMap]
  refine ⟨fun k _ => ?_, ?_⟩
  · rw [List.pairwise_map]
    have := srtD_pw ((ways ps (gtB k) (far ps (k, 1)) (near ps (k, 1))).map wayD)
    have e := (SWl_ok ps gtB k).1
    unfold SW at e
    rw [e, List.pairwise_map] at this
    refine this.imp fun {a b} h => ?_
    unfold wayD at h ⊢
    exact leD_cons h
  · refine List.Pairwise.imp ?_ (List.pairwise_lt_range (n := ps.length))
    intro k j hkj x hx y hy
    obtain ⟨u, _, rfl⟩ := List.mem_map.mp hx
    obtain ⟨v, _, rfl⟩ := List.mem_map.mp hy
    unfold wayD
    exact leD_first hkj
theorem ringsS_ne (ps : List Pipe) : ∀ w ∈ ringsS ps, w ≠ [] := fun w hw e => by
  subst e
  unfold ringsS at hw
  obtain ⟨k, _, hk⟩ := List.mem_flatMap.mp hw
  obtain ⟨u, _, e⟩ := List.mem_map.mp hk
  cases e
theorem ringsS_srt (ps : List Pipe) : srtD ((ringsS ps).map wayD) = (ringsS ps).map wayD := srt_self (ways_srtOk (ringsS_ne ps)) (ringsS_sorted ps)
/-! ### rows of values -/
def vD (xs : List Int) : D := .tup (xs.map D.int)
theorem vD_alike (xs ys : List Int) : alikeAll (toPyL (xs.map D.int)) (toPyL (ys.map D.int)) = true := by
  induction xs generalizing ys with
  | nil => cases ys <;> simp [toPyL, alikeAll]
  | cons x xs ih =>
    cases ys with
    | nil => simp [toPyL, alikeAll]
    | cons y ys => simp [toPyL, alikeAll, toPy, alike, ih ys]
theorem vD_depth : ∀ a : List Int, PyData.depthAll (toPyL (a.map D.int)) = 0
  | [] => by simp [toPyL, PyData.depthAll]
  | x :: a => by
    rw [List.map_cons, toPyL, PyData.depthAll, vD_depth a]
    simp [toPy, PyData.depth]
theorem vD_srtOk {L : List (List Int)} (h : ∀ x ∈ L, x ≠ []) : srtOk (L.map vD) = true := by
  unfold srtOk alikeD
  simp only [Bool.and_eq_true, Bool.or_eq_true, List.all_eq_true, decide_eq_true_eq]
  refine ⟨⟨fun d hd e he => ?_, .inl fun d hd => ?_⟩, fun d hd => ?_⟩
  · obtain ⟨a, _, rfl⟩ := List.mem_map.mp hd
    obtain ⟨b, _, rfl⟩ := List.mem_map.mp he
    unfold vD
    simp only [toPy, alike]
    exact vD_alike a b
  · obtain ⟨a, ha, rfl⟩ := List.mem_map.mp hd
    cases a with
    | nil => exact absurd rfl (h _ ha)
    | cons s w => rfl
  · obtain ⟨a, _, rfl⟩ := List.mem_map.mp hd
    have := vD_depth a
    simp only [vD, toPy, PyData.depth]
    omega
/-- rings through pipe p: their values, sorted -/
def thrD (ps : List Pipe) (p : Nat) : D := .tup (srtD (((thr ps p).map (vals ps.length)).map vD))
theorem vl_snoc {c : List Rg.St} {s : Rg.St} {j : Nat} (h : s.1 ∉ c.map (·.1)) : vl (c ++ [s]) j = if j = s.1 then s.2 else vl c j := by
  induction c with
  | nil => simp [vl, eq_comm]
  | cons r c ih =>
    rw [List.map_cons, List.mem_cons] at h
    have h1 : s.1 ≠ r.1 := fun z => h (.inl z)
    rw [List.cons_append, vl, vl, ih fun z => h (.inr z)]
    by_cases hj : r.1 = j
    · rw [if_pos hj, if_pos hj, if_neg (fun z => h1 (z.symm.trans hj.symm))]
    · rw [if_neg hj, if_neg hj]
theorem vals_set {m : Nat} {c : List Rg.St} {s : Rg.St} (h : s.1 ∉ c.map (·.1)) : ((vals m c).map D.int).set s.1 (.int s.2) = (vals m (c ++ [s])).map D.int := by
  unfold vals
  refine List.ext_getElem? fun j => ?_
  by_cases hl : j < m
  · by_cases hj : j = s.1
    · subst hj
      rw [List.getElem?_set_self (by simpa using hl)]
      simp [hl, vl_snoc h]
    · rw [List.getElem?_set_ne (Ne.symm hj)]
      simp [hl, vl_snoc h, hj]
  · rw [List.getElem?_eq_none (by simp; omega), List.getElem?_eq_none (by simp; omega)]
def VbI (m : Nat) (c : List Rg.St) (i : Nat) (l : Loc) : Prop := ∃ a b, l = [.val (.int (m : Nat)), .val (wayD c), .own ((vals m (c.take i)).map D.int), a, b]
section
variable {P : Nat → Option FD} {Q : Sl × List Sl → Prop} {k m : Nat} {c : List Rg.St}
theorem valuesBy_run {i : Nat} (hP : P i = some fdValuesBy) (hm : m ≤ 20) (hc : (c.map (·.1)).Nodup) (hb : ∀ s ∈ c, s.1 < m) (q : Q (.val (vD (vals m c)), [.un, .un])) : Post (callF P (k + 1) i [.val (.int (m : Nat)), .val (wayD c)]) Q := by
  rw [post_fn hP]
  have ew : wayD c = .tup (c.map stD) := rfl
  simp [fdValuesBy, ew]
  rw [← ew]
  refine ⟨by omega, ?_⟩
  have e0 : List.replicate m (D.int 0) = (vals m (c.take 0)).map D.int := by
    simp [vals, vl]
    refine List.ext_getElem? fun j => ?_
    by_cases hl : j < m
    · simp [hl]
    · rw [List.getElem?_eq_none (by simp; omega), List.getElem?_eq_none (by simp; omega)]
  rw [e0]
  refine forL_ix (VbI m c) ⟨_, _, rfl⟩ (fun i d l hd hh => ?_) (fun l hh => ?_)
  · obtain ⟨a, b, rfl⟩ := hh
    rw [List.getElem?_map, Option.map_eq_some_iff] at hd
    obtain ⟨s, hs, rfl⟩ := hd
    have hsm := List.mem_of_getElem? hs
    have hlt := hb s hsm
    have et : c.take (i + 1) = c.take i ++ [s] := by rw [List.take_succ, hs]; rfl
    have hn : s.1 ∉ (c.take i).map (·.1) := fun z => by
      have h2 : ((c.take (i + 1)).map (·.1)).Nodup := (List.take_sublist (i + 1) c).map (·.1) |>.nodup hc
      rw [et, List.map_append, List.nodup_append] at h2
      exact h2.2.2 _ z s.1 (by simp) rfl
    have hvl : (List.map D.int (vals m (c.take i))).length = m := by simp [vals]
    simp
    rw [ixN_lit (by simpa [vals] using hlt)]
    simp
    refine ⟨.val (.int (s.1 : Nat)), .val (.int s.2), ?_⟩
    rw [et, ← vals_set hn]
  · obtain ⟨a, b, rfl⟩ := hh
    rw [List.length_map, List.take_length]
    simp
    exact q
end
/-- the place of a pipe in a ring -/
theorem far1 {ps : List Pipe} {k : Nat} (h : k < ps.length) : far ps (k, 1) = ps[k].2 ∧ near ps (k, 1) = ps[k].1 := by
  unfold far near
  rw [List.getElem?_eq_getElem h]
  exact ⟨rfl, rfl⟩
def RgI (n : Nat) (ps : List Pipe) (i : Nat) (l : Loc) : Prop := ∃ c2 c3 c4 c5 c6 c7, l = [.val (webD n ps), .own ((((List.range i).flatMap fun k => (SWl ps gtB k).map ((k, 1) :: ·))).map wayD), c2, c3, c4, c5, c6, c7]
def RgJ (n : Nat) (ps : List Pipe) (k : Nat) (acc : List D) (L : D) (i : Nat) (l : Loc) : Prop := ∃ c4 c5 c6 c7, l = [.val (webD n ps), .own (acc ++ (((SWl ps gtB k).take i).map ((k, 1) :: ·)).map wayD), .val (.int (k : Nat)), .val L, c4, c5, c6, c7]
theorem SWl_len {n : Nat} {ps : List Pipe} {ok : Nat → Nat → Bool} {k : Nat} (H : WebOk n ps) : (SWl ps ok k).length ≤ 2794 := by
  rw [(SWl_ok ps ok k).2.length_eq]
  exact Nat.le_trans paths_len (nodes_small H.ne H.len (by simp))
theorem ringsI_len {n : Nat} {ps : List Pipe} (H : WebOk n ps) : ∀ i : Nat, i ≤ ps.length → ((List.range i).flatMap fun k => (SWl ps gtB k).map ((k, (1 : Int)) :: ·)).length ≤ 2794 * i
  | 0, _ => by simp
  | i + 1, h => by
    have ih := ringsI_len H i (by omega)
    have := SWl_len (ok := gtB) (k := i) H
    rw [List.range_succ, List.flatMap_append, List.length_append, List.flatMap_cons, List.flatMap_nil, List.append_nil, List.length_map]
    omega
section
variable {P : Nat → Option FD} {Q : Sl × List Sl → Prop} {k n : Nat} {ps : List Pipe}
theorem rings_run {i wa lv : Nat} (hP : P i = some (fdRings wa)) (hw : P wa = some (fdWaysAm lv)) (hl : P lv = some fdLeaving) (H : WebOk n ps) (q : Q (.val (.tup ((ringsS ps).map wayD)), [.un])) : Post (callF P (k + 3) i [.val (webD n ps)]) Q := by
  rw [post_fn hP]
  have pl := H.len
  have ew : webD n ps = .tup [.int (n : Nat), .tup (ps.map pr2)] := rfl
  simp [fdRings, ew]
  rw [← ew]
  refine forL_ix (RgI n ps) ⟨_, _, _, _, _, _, rfl⟩ (fun i d l hd hh => ?_) (fun l hh => ?_)
  · obtain ⟨c2, c3, c4, c5, c6, c7, rfl⟩ := hh
    obtain ⟨e, he, rfl⟩ := enm_get hd
    rw [List.getElem?_map, Option.map_eq_some_iff] at he
    obtain ⟨p, hp, rfl⟩ := he
    have hil := (List.getElem?_eq_some_iff.mp hp).1
    have hpm := List.mem_of_getElem? hp
    have hfar : far ps (i, 1) = p.2 ∧ near ps (i, 1) = p.1 := by
      obtain ⟨h1, h2⟩ := far1 hil
      rw [(List.getElem?_eq_some_iff.mp hp).2] at h1 h2
      exact ⟨h1, h2⟩
    simp [ew]
    rw [← ew]
    refine ⟨rgOk_ok (by omega) (by omega) (by omega) (by omega), ?_⟩
    rw [rgD_nat]
    have acl := ringsI_len H i (by omega)
    have eR : ((List.range (i + 1)).flatMap fun k => (SWl ps gtB k).map ((k, (1 : Int)) :: ·)).map wayD = ((List.range i).flatMap fun k => (SWl ps gtB k).map ((k, (1 : Int)) :: ·)).map wayD ++ ((SWl ps gtB i).map ((i, (1 : Int)) :: ·)).map wayD := by
      rw [List.range_succ, List.flatMap_append, List.map_append]
      simp
    generalize hacc : ((List.range i).flatMap fun k => (SWl ps gtB k).map ((k, (1 : Int)) :: ·)).map wayD = acc at eR
    have acl : acc.length ≤ 2794 * i := by rw [← hacc, List.length_map]; exact acl
    have lets : Lets ps.length (gtB i) ((List.range ps.length).map fun j => D.bl (gtB i j)) := fun j hj => by simp [hj]
    refine compL_mp (List.range ps.length) (fun j => D.int (j : Nat)) (fun j => D.bl (gtB i j)) (fun l => ∃ c, l = [.val (webD n ps), .own acc, .val (.int (i : Nat)), c3, c4, .val (.int (p.1 : Nat)), .val (.int (p.2 : Nat)), c]) rfl ⟨_, rfl⟩ (by simp; omega) (fun j l hj hI => ?_) (fun l hI => ?_)
    · obtain ⟨c, rfl⟩ := hI
      simp [bindT, gtB]
    obtain ⟨c, rfl⟩ := hI
    generalize ((List.range ps.length).map fun j => D.bl (gtB i j)) = L at lets
    simp
    refine waysAm_run hw hl H (H.b p hpm) (H.a p hpm) (Ne.symm (H.ne p hpm)) lets ?_
    obtain ⟨e1, e2⟩ := SWl_ok ps gtB i
    have e3 : srtD ((ways ps (gtB i) p.2 p.1).map wayD) = (SWl ps gtB i).map wayD := by
      rw [← e1, SW, hfar.1, hfar.2]
    rw [e3]
    simp
    have swl := SWl_len (ok := gtB) (k := i) H
    refine forL_ix (RgJ n ps i acc (.lst L)) ⟨c4, .val (.int (p.1 : Nat)), .val (.int (p.2 : Nat)), c, by simp⟩ (fun j d l hd hh => ?_) (fun l hh => ?_)
    · obtain ⟨c4, c5, c6, c7, rfl⟩ := hh
      rw [List.getElem?_map, Option.map_eq_some_iff] at hd
      obtain ⟨w, hw, rfl⟩ := hd
      have hjl := (List.getElem?_eq_some_iff.mp hw).1
      have et : (SWl ps gtB i).take (j + 1) = (SWl ps gtB i).take j ++ [w] := by rw [List.take_succ, hw]; rfl
      have hwl : w.length ≤ 12 := by
        have hm := e2.mem_iff.mp (List.mem_of_getElem? hw)
        unfold ways at hm
        have := ((mem_paths (by simp)).mp hm).1
        omega
      have ewd : wayD w = .tup (w.map stD) := rfl
      simp [ewd]
      refine ⟨by omega, by omega, ?_⟩
      refine ⟨.val (.tup (w.map stD)), c5, c6, c7, ?_⟩
      rw [et]
      simp [wayD]
    · obtain ⟨c4, c5, c6, c7, rfl⟩ := hh
      rw [List.length_map, List.take_length]
      rw [← eR]
      simp only [loopQ_nx, seqQ_nx, b_nil]
      exact ⟨_, _, _, _, _, _, rfl⟩
  · obtain ⟨c2, c3, c4, c5, c6, c7, rfl⟩ := hh
    rw [enm_len, List.length_map]
    simp
    exact q
end
theorem vals_ne {m : Nat} {c : List Rg.St} (h : 0 < m) : vals m c ≠ [] := fun z => by
  have := congrArg List.length z
  unfold vals at this
  rw [List.length_map, List.length_range, List.length_nil] at this
  omega
theorem turned_ne {m p : Nat} {c : List Rg.St} (h : 0 < m) : turned m p c ≠ [] := fun z => by
  have := congrArg List.length z
  unfold turned at this
  rw [List.length_map, List.length_range, List.length_nil] at this
  omega
theorem thrD_ok {n : Nat} {ps : List Pipe} {p : Nat} (H : WebOk n ps) (hp : p < ps.length) : srtOk (((thr ps p).map (vals ps.length)).map vD) = true := vD_srtOk fun x hx => by
  obtain ⟨c, _, rfl⟩ := List.mem_map.mp hx
  exact vals_ne (by omega)
def LrI (n : Nat) (ps : List Pipe) (i : Nat) (l : Loc) : Prop := ∃ c2 c3 c4 c5, l = [.val (webD n ps), .own ((((List.range i).flatMap fun k => (SWl ps gtB k).map ((k, 1) :: ·))).map wayD), c2, c3, c4, c5]
def TlI (n : Nat) (ps : List Pipe) (own : List D) (p : Nat) (R : List (List Rg.St)) (i : Nat) (l : Loc) : Prop := ∃ c4 c5 c6 c7 c8, l = [.val (webD n ps), .val (.lst own), .val (.int (p : Nat)), .own ((((R.take i).filter fun r => decide (vl r p ≠ 0)).map (turned ps.length p)).map vD), c4, c5, c6, c7, c8]
def TlJ (m : Nat) (F : Sl → Sl → Sl → Loc) (r : List Rg.St) (i : Nat) (l : Loc) : Prop := ∃ a b, l = F (.own ((vals m (r.take i)).map D.int)) a b
section
variable {P : Nat → Option FD} {Q : Sl × List Sl → Prop} {k n : Nat} {ps : List Pipe}
theorem lrings_run {i wy st : Nat} (hP : P i = some (fdLRings wy)) (hw : P wy = some (fdLWays st)) (hs : P st = some fdLSteps) (H : WebOk n ps) (q : Q (.own ((ringsS ps).map wayD), [.un])) : Post (callF P (k + 3) i [.val (webD n ps)]) Q := by
  rw [post_fn hP]
  have pl := H.len
  have ew : webD n ps = .tup [.int (n : Nat), .tup (ps.map pr2)] := rfl
  simp [fdLRings, ew]
  rw [← ew]
  refine ⟨rgOk_ok (by omega) (by omega) (by omega) (by omega), ?_⟩
  have g1 := fun i d => @rgD_get 0 (ps.length : Int) i d
  have g2 := rgD_length 0 (ps.length : Int)
  generalize rgD 0 (ps.length : Int) = zs at g1 g2
  refine forL_ix (LrI n ps) ⟨_, _, _, _, rfl⟩ (fun i d l hd hh => ?_) (fun l hh => ?_)
  · obtain ⟨c2, c3, c4, c5, rfl⟩ := hh
    obtain ⟨rfl, hi⟩ := g1 _ _ hd
    have hil : i < ps.length := by omega
    obtain ⟨p, hp⟩ : ∃ p, p = ps[i] := ⟨_, rfl⟩
    have hpm : p ∈ ps := by rw [hp]; exact List.getElem_mem hil
    have hfar : far ps (i, 1) = p.2 ∧ near ps (i, 1) = p.1 := by rw [hp]; exact far1 hil
    have acl := ringsI_len H i (by omega)
    have eR : ((List.range (i + 1)).flatMap fun k => (SWl ps gtB k).map ((k, (1 : Int)) :: ·)).map wayD = ((List.range i).flatMap fun k => (SWl ps gtB k).map ((k, (1 : Int)) :: ·)).map wayD ++ ((SWl ps gtB i).map ((i, (1 : Int)) :: ·)).map wayD := by
      rw [List.range_succ, List.flatMap_append, List.map_append]
      simp
    generalize hacc : ((List.range i).flatMap fun k => (SWl ps gtB k).map ((k, (1 : Int)) :: ·)).map wayD = acc at eR
    have acl : acc.length ≤ 2794 * i := by rw [← hacc, List.length_map]; exact acl
    simp [ew, pr_at hil]
    rw [← ew, ← hp]
    refine lways_run hw hs H (H.b p hpm) (H.a p hpm) (Ne.symm (H.ne p hpm)) (ok := gtB i) (fun j => by simp [gtB]) ?_
    obtain ⟨e1, e2⟩ := SWl_ok ps gtB i
    have e3 : srtD ((ways ps (gtB i) p.2 p.1).map wayD) = (SWl ps gtB i).map wayD := by
      rw [← e1, SW, hfar.1, hfar.2]
    rw [e3]
    simp
    have swl := SWl_len (ok := gtB) (k := i) H
    have hwl : ∀ w ∈ SWl ps gtB i, w.length ≤ 12 := fun w hw => by
      have hm := e2.mem_iff.mp hw
      unfold ways at hm
      have := ((mem_paths (by simp)).mp hm).1
      omega
    refine compL_mp (SWl ps gtB i) wayD (fun w => wayD ((i, 1) :: w)) (fun l => ∃ c, l = [.val (webD n ps), .own acc, .val (.int (i : Nat)), .val (.int (p.1 : Nat)), .val (.int (p.2 : Nat)), c]) rfl ⟨.un, by simp⟩ (by omega) (fun w l hj hI => ?_) (fun l hI => ?_)
    · obtain ⟨c, rfl⟩ := hI
      have := hwl w hj
      simp [bindT, wayD]
      omega
    obtain ⟨c, rfl⟩ := hI
    have e9 : acc ++ (SWl ps gtB i).map (fun w => wayD ((i, 1) :: w)) = ((List.range (i + 1)).flatMap fun k => (SWl ps gtB k).map ((k, (1 : Int)) :: ·)).map wayD := by
      rw [eR, List.map_map]
      rfl
    simp
    rw [e9]
    exact ⟨by omega, _, _, _, _, rfl⟩
  · obtain ⟨c2, c3, c4, c5, rfl⟩ := hh
    have : zs.length = ps.length := by omega
    rw [this]
    simp
    rw [show ((List.range ps.length).flatMap fun k => (SWl ps gtB k).map ((k, (1 : Int)) :: ·)) = ringsS ps from rfl, ringsS_srt]
    exact ⟨ways_srtOk (ringsS_ne ps), q⟩
theorem through_run {i vb wa lv : Nat} (hP : P i = some (fdThrough vb wa)) (hw : P wa = some (fdWaysAm lv)) (hl : P lv = some fdLeaving) (hv : P vb = some fdValuesBy) (H : WebOk n ps) {p : Nat} (hp : p < ps.length) (q : Q (.val (thrD ps p), [.un, .un])) : Post (callF P (k + 3) i [.val (webD n ps), .val (.int (p : Nat))]) Q := by
  rw [post_fn hP]
  have pl := H.len
  have ew : webD n ps = .tup [.int (n : Nat), .tup (ps.map pr2)] := rfl
  obtain ⟨r, hr⟩ : ∃ r, r = ps[p] := ⟨_, rfl⟩
  have hrm : r ∈ ps := by rw [hr]; exact List.getElem_mem hp
  have hfar : far ps (p, 1) = r.2 ∧ near ps (p, 1) = r.1 := by rw [hr]; exact far1 hp
  simp [fdThrough, ew, pr_at hp]
  rw [← ew, ← hr]
  refine ⟨rgOk_ok (by omega) (by omega) (by omega) (by omega), ?_⟩
  rw [rgD_nat]
  have lets : Lets ps.length (neB p) ((List.range ps.length).map fun j => D.bl (neB p j)) := fun j hj => by simp [hj]
  refine compL_mp (List.range ps.length) (fun j => D.int (j : Nat)) (fun j => D.bl (neB p j)) (fun l => ∃ c, l = [.val (webD n ps), .val (.int (p : Nat)), .val (.int (ps.length : Nat)), .un, .un, .val (.int (r.1 : Nat)), .val (.int (r.2 : Nat)), c, .un]) rfl ⟨_, rfl⟩ (by simp; omega) (fun j l hj hI => ?_) (fun l hI => ?_)
  · obtain ⟨c, rfl⟩ := hI
    have e7 : neB p j = !decide ((j : Int) = (p : Int)) := by
      unfold neB
      by_cases h : j = p
      · subst h; simp
      · rw [decide_eq_false (by omega)]
        simpa using h
    rw [e7]
    simp [bindT]
  obtain ⟨c, rfl⟩ := hI
  generalize ((List.range ps.length).map fun j => D.bl (neB p j)) = L at lets
  simp
  refine waysAm_run hw hl H (H.b r hrm) (H.a r hrm) (Ne.symm (H.ne r hrm)) lets ?_
  obtain ⟨e1, e2⟩ := SWl_ok ps neB p
  have e3 : srtD ((ways ps (neB p) r.2 r.1).map wayD) = (SWl ps neB p).map wayD := by
    rw [← e1, SW, hfar.1, hfar.2]
  rw [e3]
  simp
  have swl := SWl_len (ok := neB) (k := p) H
  have hcy : ∀ w ∈ SWl ps neB p, Cyc ps ((p, 1) :: w) := fun w hw => by
    have hm := e2.mem_iff.mp hw
    obtain ⟨w', e, h2⟩ := (mem_thr H.web hp (c := (p, 1) :: w)).mp (by
      unfold thr waysB
      exact List.mem_map_of_mem hm)
    exact h2
  refine compL_mp (SWl ps neB p) wayD (fun w => vD (vals ps.length ((p, 1) :: w))) (fun l => ∃ s3 c c8, l = [.val (webD n ps), .val (.int (p : Nat)), .val (.int (ps.length : Nat)), s3, .un, .val (.int (r.1 : Nat)), .val (.int (r.2 : Nat)), c, c8]) rfl ⟨.val (.lst L), c, .un, by simp⟩ (by omega) (fun w l hj hI => ?_) (fun l hI => ?_)
  · obtain ⟨s3, c, c8, rfl⟩ := hI
    have hc := hcy w hj
    have hwl : w.length ≤ 12 := by
      have hm := e2.mem_iff.mp hj
      unfold ways at hm
      have := ((mem_paths (by simp)).mp hm).1
      omega
    have ewd : wayD w = .tup (w.map stD) := rfl
    simp [bindT, ewd]
    refine ⟨by omega, ?_⟩
    have e5 : D.tup (D.tup [D.int (p : Nat), D.int 1] :: w.map stD) = wayD ((p, 1) :: w) := rfl
    rw [e5]
    refine valuesBy_run hv pl hc.pp (fun s hs => ?_) ?_
    · obtain ⟨u, hw⟩ := hc.ex
      exact (hw.ok s hs).1
    · simp
  obtain ⟨s3, c, c8, rfl⟩ := hI
  have e6 : (SWl ps neB p).map (fun w => vD (vals ps.length ((p, 1) :: w))) = ((((SWl ps neB p).map ((p, (1 : Int)) :: ·)).map (vals ps.length)).map vD) := by
    rw [List.map_map, List.map_map]
    rfl
  have pm : (((SWl ps neB p).map ((p, (1 : Int)) :: ·)).map (vals ps.length)).Perm ((thr ps p).map (vals ps.length)) := (e2.map _).map _
  have ok := thrD_ok (p := p) H hp
  rw [e6]
  have e7 := srt_perm ok (pm.map vD)
  have ok2 : srtOk ((((SWl ps neB p).map ((p, (1 : Int)) :: ·)).map (vals ps.length)).map vD) = true := vD_srtOk fun x hx => by
    obtain ⟨c, _, rfl⟩ := List.mem_map.mp hx
    exact vals_ne (by omega)
  generalize ((((SWl ps neB p).map ((p, (1 : Int)) :: ·)).map (vals ps.length)).map vD) = ds at e7 ok2
  simp
  refine ⟨ok2, ?_⟩
  rw [e7]
  exact q
theorem lthr_run {i : Nat} (hP : P i = some fdLThr) (H : WebOk n ps) {p : Nat} (hp : p < ps.length) (q : Q (.val (thrD ps p), [.un, .un, .un])) : Post (callF P (k + 1) i [.val (webD n ps), .val (.lst ((ringsS ps).map wayD)), .val (.int (p : Nat))]) Q := by
  rw [post_fn hP]
  have pl := H.len
  have ew : webD n ps = .tup [.int (n : Nat), .tup (ps.map pr2)] := rfl
  have hR : ∀ r ∈ ringsS ps, Cyc ps r := fun r hr => by
    obtain ⟨_, _, _, h, _⟩ := (mem_ringsL H.web).mp ((ringsS_perm ps).mem_iff.mp hr)
    exact h
  have rl : (ringsS ps).length ≤ 55880 := by
    have := ringsI_len H ps.length (Nat.le_refl _)
    have e : (ringsS ps).length = ((List.range ps.length).flatMap fun k => (SWl ps gtB k).map ((k, (1 : Int)) :: ·)).length := rfl
    omega
  have fin := through_perm H.web hp
  have pm : ((((ringsS ps).filter fun r => decide (vl r p ≠ 0)).map (turned ps.length p)).map vD).Perm (((thr ps p).map (vals ps.length)).map vD) := ((((ringsS_perm ps).filter _).map _).trans fin.symm).map vD
  generalize ringsS ps = R at hR rl pm
  generalize hown : R.map wayD = own
  simp [fdLThr]
  rw [← hown]
  refine forL_ix (TlI n ps own p R) ⟨_, _, _, _, _, by rw [hown]; rfl⟩ (fun i d l hd hh => ?_) (fun l hh => ?_)
  · obtain ⟨c4, c5, c6, c7, c8, rfl⟩ := hh
    rw [List.getElem?_map, Option.map_eq_some_iff] at hd
    obtain ⟨r, hr, rfl⟩ := hd
    have hrm := List.mem_of_getElem? hr
    have hc := hR r hrm
    have hil := (List.getElem?_eq_some_iff.mp hr).1
    have et : R.take (i + 1) = R.take i ++ [r] := by rw [List.take_succ, hr]; rfl
    have acl : ((((R.take i).filter fun r => decide (vl r p ≠ 0)).map (turned ps.length p)).map vD).length ≤ 55880 := by
      rw [List.length_map, List.length_map]
      refine Nat.le_trans (List.length_filter_le _ _) ?_
      rw [List.length_take]; omega
    have enew : ((((R.take (i + 1)).filter fun r => decide (vl r p ≠ 0)).map (turned ps.length p)).map vD) = ((((R.take i).filter fun r => decide (vl r p ≠ 0)).map (turned ps.length p)).map vD) ++ (if vl r p ≠ 0 then [vD (turned ps.length p r)] else []) := by
      rw [et, List.filter_append, List.map_append, List.map_append]
      congr 1
      by_cases h : vl r p ≠ 0
      · simp [h]
      · simp [h]
    generalize ((((R.take i).filter fun r => decide (vl r p ≠ 0)).map (turned ps.length p)).map vD) = acc at acl enew
    have ewr : wayD r = .tup (r.map stD) := rfl
    simp [ew]
    rw [← ew]
    refine compL_mp ps pr2 (fun _ => D.int 0) (fun l => ∃ c, l = [.val (webD n ps), .val (.lst own), .val (.int (p : Nat)), .own acc, .val (wayD r), c5, c6, c7, c]) rfl ⟨_, rfl⟩ (by omega) (fun x l hx hI => ?_) (fun l hI => ?_)
    · obtain ⟨c, rfl⟩ := hI
      simp [bindT]
    obtain ⟨c, rfl⟩ := hI
    have e0 : (ps.map fun _ => D.int 0) = (vals ps.length (r.take 0)).map D.int := by
      refine List.ext_getElem? fun j => ?_
      by_cases hl : j < ps.length
      · simp [hl, vals, vl]
      · rw [List.getElem?_eq_none (by simp; omega), List.getElem?_eq_none (by simp [vals]; omega)]
    rw [e0]
    simp [ewr]
    rw [← ewr]
    generalize hF : (fun (s a b : Sl) => [Sl.val (webD n ps), Sl.val (.lst own), Sl.val (.int (p : Nat)), Sl.own acc, Sl.val (wayD r), s, a, b, c]) = F
    refine forL_ix (TlJ ps.length F r) ⟨c6, c7, by rw [← hF]; simp [vals, vl]⟩ (fun j d l hd hh => ?_) (fun l hh => ?_)
    · obtain ⟨a, b, rfl⟩ := hh
      rw [List.getElem?_map, Option.map_eq_some_iff] at hd
      obtain ⟨s, hs, rfl⟩ := hd
      have hsm := List.mem_of_getElem? hs
      have hlt : s.1 < ps.length := by
        obtain ⟨u, hw⟩ := hc.ex
        exact (hw.ok s hsm).1
      have et : r.take (j + 1) = r.take j ++ [s] := by rw [List.take_succ, hs]; rfl
      have hn : s.1 ∉ (r.take j).map (·.1) := fun z => by
        have h2 : ((r.take (j + 1)).map (·.1)).Nodup := (List.take_sublist (j + 1) r).map (·.1) |>.nodup hc.pp
        rw [et, List.map_append, List.nodup_append] at h2
        exact h2.2.2 _ z s.1 (by simp) rfl
      rw [← hF]
      simp
      rw [ixN_lit (by simpa [vals] using hlt)]
      simp
      refine ⟨.val (.int (s.1 : Nat)), .val (.int s.2), ?_⟩
      rw [et, ← vals_set hn]
    · obtain ⟨a, b, rfl⟩ := hh
      rw [List.length_map, List.take_length, ← hF]
      have ev : atI ((vals ps.length r).map D.int) (p : Int) = some (.int (vl r p)) := by
        rw [atI_nat']
        simp [vals, hp]
      have sm : ∀ i, vl r i = 0 ∨ vl r i = 1 ∨ vl r i = -1 := vl_pm hc
      simp [ev]
      (first | refine If.hh (fun h0 => ?_) (fun h0 => ?_) | refine If.ha (fun h0 => ?_) (fun h0 => ?_) | refine If.ah (fun h0 => ?_) (fun h0 => ?_) | refine If.aa (fun h0 => ?_) (fun h0 => ?_))
      · have h0 : vl r p ≠ 0 := by simpa using h0
        rw [if_pos h0] at enew
        simp
        have es : (vals ps.length r).map D.int = (List.range ps.length).map fun j => D.int (vl r j) := by
          unfold vals
          rw [List.map_map]
          rfl
        refine compL_mp (List.range ps.length) (fun j => D.int (vl r j)) (fun j => D.int (vl r p * vl r j)) (fun l => ∃ x, l = [.val (webD n ps), .val (.lst own), .val (.int (p : Nat)), .own acc, .val (wayD r), .val (.lst ((vals ps.length r).map D.int)), x, b, c]) es ⟨.un, by simp⟩ (by simp; omega) (fun j l hj hI => ?_) (fun l hI => ?_)
        · obtain ⟨x, rfl⟩ := hI
          simp [bindT, ev]
          exact mulOk_l (by rcases sm p with z | z | z <;> omega) (by rcases sm p with z | z | z <;> omega)
        obtain ⟨x, rfl⟩ := hI
        have e9 : acc ++ [D.tup ((List.range ps.length).map fun j => D.int (vl r p * vl r j))] = ((((R.take (i + 1)).filter fun r => decide (vl r p ≠ 0)).map (turned ps.length p)).map vD) := by
          rw [enew]
          simp [vD, turned]
        simp
        rw [e9]
        exact ⟨by omega, _, _, _, _, _, rfl⟩
      · have h0 : vl r p = 0 := by simpa using h0
        rw [if_neg (by simp [h0]), List.append_nil] at enew
        simp
        rw [← enew]
        exact ⟨_, _, _, _, _, rfl⟩
  · obtain ⟨c4, c5, c6, c7, c8, rfl⟩ := hh
    rw [List.length_map, List.take_length]
    have ok := thrD_ok (p := p) H hp
    have e7 := srt_perm ok pm
    have ok2 : srtOk (((R.filter fun r => decide (vl r p ≠ 0)).map (turned ps.length p)).map vD) = true := vD_srtOk fun x hx => by
      obtain ⟨c, _, rfl⟩ := List.mem_map.mp hx
      exact turned_ne (by omega)
    generalize (((R.filter fun r => decide (vl r p ≠ 0)).map (turned ps.length p)).map vD) = ds at e7 ok2
    simp
    refine ⟨ok2, ?_⟩
    rw [e7]
    exact q
end
/-! ## the law's own look for likeness -/
section
variable {P : Nat → Option FD} {Q : Sl × List Sl → Prop} {n : Nat}
theorem sameB_int {i : Nat} (hP : P i = some (fdSameB i)) {x : Int} (q : Q (.val (.bl true), [.un, .un])) : Post (callF P (n + 1) i [.val (.int x), .val (.int x)]) Q := by
  rw [post_fn hP]
  simp [fdSameB, istD]
  exact q
theorem sameB_non {i : Nat} (hP : P i = some (fdSameB i)) (q : Q (.val (.bl true), [.un, .un])) : Post (callF P (n + 1) i [.val .non, .val .non]) Q := by
  rw [post_fn hP]
  simp [fdSameB, istD]
  exact q
theorem sameB_tup {i m : Nat} (hP : P i = some (fdSameB i)) {xs : List D} (hl : xs.length ≤ 1000000) (h : ∀ x ∈ xs, ∀ Q : Sl × List Sl → Prop, Q (.val (.bl true), [.un, .un]) → Post (callF P m i [.val x, .val x]) Q) (q : Q (.val (.bl true), [.un, .un])) : Post (callF P (m + 1) i [.val (.tup xs), .val (.tup xs)]) Q := by
  rw [post_fn hP]
  simp [fdSameB, istD]
  refine ⟨rgOk_ok (by omega) (by omega) (by omega) (by omega), ?_⟩
  have g1 := fun i d => @rgD_get 0 (xs.length : Int) i d
  have g2 := rgD_length 0 (xs.length : Int)
  generalize rgD 0 (xs.length : Int) = zs at g1 g2
  refine forL_ix (fun _ l => ∃ c, l = [.val (.tup xs), .val (.tup xs), c]) ⟨_, rfl⟩ (fun j d l hd hh => ?_) (fun l hh => ?_)
  · obtain ⟨c, rfl⟩ := hh
    obtain ⟨rfl, hj⟩ := g1 _ _ hd
    have hj : j < xs.length := by omega
    simp
    rw [atI_nat', List.getElem?_eq_getElem hj]
    simp
    refine h _ (List.getElem_mem _) _ ?_
    simp
  · obtain ⟨c, rfl⟩ := hh
    simp
    exact q
theorem nolstL_all : ∀ {ds : List D}, (nolstL ds = true) = (∀ d ∈ ds, nolst d = true)
  | [] => by simp
  | d :: ds => by
    rw [nolstL_cons, Bool.and_eq_true, nolstL_all]
    simp
theorem nolst_vD (v : List Int) : nolst (vD v) = true := by
  unfold vD
  rw [nolst_tup, nolstL_all]
  intro d hd
  obtain ⟨x, _, rfl⟩ := List.mem_map.mp hd
  rfl
/-- data of ints, by its depth -/
def PlD : Nat → D → Prop
  | 0, d => (∃ i, d = .int i) ∨ d = .non
  | m + 1, d => (∃ i, d = .int i) ∨ d = .non ∨ ∃ xs, d = .tup xs ∧ xs.length ≤ 1000000 ∧ ∀ x ∈ xs, PlD m x
theorem PlD.int (m : Nat) (i : Int) : PlD m (.int i) := by
  cases m with
  | zero => exact .inl ⟨i, rfl⟩
  | succ m => exact .inl ⟨i, rfl⟩
theorem PlD.non (m : Nat) : PlD m .non := by
  cases m with
  | zero => exact .inr rfl
  | succ m => exact .inr (.inl rfl)
theorem PlD.tup {m : Nat} {xs : List D} (hl : xs.length ≤ 1000000) (h : ∀ x ∈ xs, PlD m x) : PlD (m + 1) (.tup xs) := .inr (.inr ⟨xs, rfl, hl, h⟩)
theorem sameB_all {i : Nat} (hP : P i = some (fdSameB i)) : ∀ (m n : Nat) (d : D), PlD m d → ∀ Q : Sl × List Sl → Prop, Q (.val (.bl true), [.un, .un]) → Post (callF P (n + m + 1) i [.val d, .val d]) Q
  | 0, n, d, h, Q, q => by
    rcases h with ⟨x, rfl⟩ | rfl
    · exact sameB_int hP q
    · exact sameB_non hP q
  | m + 1, n, d, h, Q, q => by
    rcases h with ⟨x, rfl⟩ | rfl | ⟨xs, rfl, hl, h⟩
    · exact sameB_int hP q
    · exact sameB_non hP q
    · exact sameB_tup hP hl (fun x hx Q q => sameB_all hP m n x (h x hx) Q q) q
theorem pl_way {w : List Rg.St} (h : w.length ≤ 1000000) : PlD 2 (wayD w) := PlD.tup (by simpa using h) fun d hd => by
  obtain ⟨s, _, rfl⟩ := List.mem_map.mp hd
  exact PlD.tup (by simp) fun e he => by
    simp at he
    rcases he with rfl | rfl <;> exact PlD.int _ _
theorem ringsS_bd {n : Nat} {ps : List Pipe} (H : WebOk n ps) : (ringsS ps).length ≤ 55880 ∧ ∀ r ∈ ringsS ps, r.length ≤ 13 := by
  have pl := H.len
  constructor
  · have := ringsI_len H ps.length (Nat.le_refl _)
    have e : (ringsS ps).length = ((List.range ps.length).flatMap fun k => (SWl ps gtB k).map ((k, (1 : Int)) :: ·)).length := rfl
    omega
  · intro r hr
    unfold ringsS at hr
    obtain ⟨k, _, hk⟩ := List.mem_flatMap.mp hr
    obtain ⟨w, hw, rfl⟩ := List.mem_map.mp hk
    have hm := (SWl_ok ps gtB k).2.mem_iff.mp hw
    unfold ways at hm
    have := ((mem_paths (by simp)).mp hm).1
    simp
    omega
theorem pl_rings {n : Nat} {ps : List Pipe} (H : WebOk n ps) : PlD 3 (.tup ((ringsS ps).map wayD)) := by
  obtain ⟨h1, h2⟩ := ringsS_bd H
  refine PlD.tup (by rw [List.length_map]; omega) fun d hd => ?_
  obtain ⟨r, hr, rfl⟩ := List.mem_map.mp hd
  exact pl_way (by have := h2 r hr; omega)
theorem pl_thr {n p : Nat} {ps : List Pipe} (H : WebOk n ps) : PlD 2 (thrD ps p) := by
  have pl := H.len
  refine PlD.tup ?_ fun d hd => ?_
  · rw [(srtD_perm _).length_eq, List.length_map, List.length_map]
    unfold thr waysB
    rw [List.length_map]
    exact Nat.le_trans (Nat.le_trans paths_len (nodes_small H.ne H.len (by simp))) (by decide)
  · have hd := (srtD_perm _).mem_iff.mp hd
    obtain ⟨v, hv, rfl⟩ := List.mem_map.mp hd
    obtain ⟨c, _, rfl⟩ := List.mem_map.mp hv
    exact PlD.tup (by simp [vals]; omega) fun e he => by
      obtain ⟨x, _, rfl⟩ := List.mem_map.mp he
      exact PlD.int _ _
end
end DL

set_option Elab.async false
set_option linter.all false
set_option maxRecDepth 100000
set_option maxHeartbeats 4000000
set_option exponentiation.threshold 20000
namespace K13
open PySem PySem.Spec PyProof.Rows L2 DL PLn Rg

def depth : Nat := 14
theorem law_holds (ns : List Int) (hn : ns.length ≤ 63) (_ : ∀ z ∈ ns, Builtin.Int.intBits z ≤ 1048576) : callF (progOf dfs) depth 15 [.val (.lst (ns.map DL.D.int))] = .ok (.val (.bl true), [.un]) := by
  refine Post.eq ?_
  rw [depth, post_fn (fd := d15.fd) rfl]
  simp [d15, b15, DefI.fd]
  refine bag_run (P := progOf dfs) (i := 5) rfl hn fun st hs => ?_
  simp
  refine ⟨by decide +kernel, ?_⟩
  have HP := fun i : Nat => (rfl : progOf dfs i = progOf dfs i)
  generalize rgD 0 2 = turns
  refine forL_inv (fun _ => InvB (fun st (b : Sl × Sl × Sl × Sl × Sl) => [.val (.lst (ns.map DL.D.int)), .nst st, b.1, b.2.1, b.2.2.1, b.2.2.2.1, b.2.2.2.2]) fun _ => True) ⟨st, (.un, .un, .un, .un, .un), hs, trivial, rfl⟩ (fun d rest l hh => ?_) (fun l hh => ?_)
  · obtain ⟨st, b, hs, _, rfl⟩ := hh
    simp
    refine dweb_run (P := progOf dfs) (k := 9) (i := 10) (dr := 6) (w := 9) (sm := 7) rfl rfl rfl rfl hs fun st n ps hs H => ?_
    simp
    refine lrings_run (P := progOf dfs) (k := 10) (i := 13) (wy := 12) (st := 11) rfl rfl rfl H ?_
    simp
    have rr := fun (Q : Sl × List Sl → Prop) q => rings_run (P := progOf dfs) (k := 10) (i := 3) (wa := 2) (lv := 0) (Q := Q) rfl rfl rfl H q
    refine rr _ ?_
    simp
    refine rr _ ?_
    simp
    refine rr _ ?_
    simp
    refine sameB_all (P := progOf dfs) (i := 8) rfl 4 8 _ (PlD.tup (by simp) fun d hd => ?_) _ ?_
    · simp at hd
      subst hd
      exact pl_rings H
    simp
    have ew : webD n ps = .tup [.int (n : Nat), .tup (ps.map pr2)] := rfl
    have pl := H.len
    simp [ew]
    rw [← ew]
    refine ⟨rgOk_ok (by omega) (by omega) (by omega) (by omega), ?_⟩
    have g1 := fun i d => @rgD_get 0 (ps.length : Int) i d
    have g2 := rgD_length 0 (ps.length : Int)
    generalize rgD 0 (ps.length : Int) = zs at g1 g2
    refine forL_ix (fun _ => InvB (fun st (b : Sl × Sl × Sl) => [.val (.lst (ns.map DL.D.int)), .nst st, b.1, .val (webD n ps), .own ((ringsS ps).map wayD), b.2.1, b.2.2]) fun _ => True) ⟨st, (_, _, _), hs, trivial, rfl⟩ (fun i d l hd hh => ?_) (fun l hh => ?_)
    · obtain ⟨st, b, hs, _, rfl⟩ := hh
      obtain ⟨rfl, hi⟩ := g1 _ _ hd
      have hi : i < ps.length := by omega
      have e0 : (0 : Int) + (i : Nat) = (i : Nat) := by omega
      simp
      refine lthr_run (P := progOf dfs) (k := 12) (i := 14) rfl H hi ?_
      simp
      have tt := fun (Q : Sl × List Sl → Prop) q => through_run (P := progOf dfs) (k := 10) (i := 4) (vb := 1) (wa := 2) (lv := 0) (Q := Q) rfl rfl rfl rfl H hi q
      have hn : nolst (thrD ps i) = true := by
        unfold thrD
        rw [nolst_tup, nolstL_all]
        intro d hd
        have hd := (srtD_perm _).mem_iff.mp hd
        obtain ⟨v, _, rfl⟩ := List.mem_map.mp hd
        exact nolst_vD v
      simp [hn]
      refine tt _ ?_
      simp
      refine tt _ ?_
      simp
      refine sameB_all (P := progOf dfs) (i := 8) rfl 3 9 _ (PlD.tup (by simp) fun d hd => ?_) _ ?_
      · simp at hd
        subst hd
        exact pl_thr H
      simp
      exact ⟨st, (b.1, .val (.int (i : Nat)), .val (thrD ps i)), hs, trivial, rfl⟩
    · obtain ⟨st, b, hs, _, rfl⟩ := hh
      simp
      exact ⟨st, (_, _, _, _, _), hs, trivial, rfl⟩
  · obtain ⟨st, b, hs, _, rfl⟩ := hh
    simp
end K13

set_option Elab.async false
set_option linter.all false
set_option maxRecDepth 100000
open PySem PySem.W PySem.Calls PyProof.Rows
set_option maxHeartbeats 0 in
theorem PySem.Challenge.cw_ringsigns_k13_rings_by_own_holds : PySem.Challenge.rw_ringsigns_k13_rings_by_own.Holds := by
  w_on; o_law
  refine HandSHeadRun.head_any (r := OpenLaw.row PySem.Challenge.rw_ringsigns_k13_rings_by_own) (q := view (OpenLaw.row PySem.Challenge.rw_ringsigns_k13_rings_by_own).prog [18]) (H := DL.hkOf 6 K13.dfs K13.cns K13.bls) (ob := DL.obOf 6 K13.dfs K13.cns K13.bls) (M := 6000) (loose := K13.loose) (d := HandSHeadRun.topDef (OpenLaw.row PySem.Challenge.rw_ringsigns_k13_rings_by_own).prog 18) (kwd := []) (DL.obOf_eq _ _ _ _)
    (by kernel_rfl) (fun s => by kernel_rfl) K13.run (by kernel_rfl) (by kernel_rfl) (by kernel_rfl) (by rfl) (by first | assumption | decide +kernel) (by decide +kernel) ⟨rfl, rfl, rfl, rfl, rfl, by decide +kernel⟩ ?hw ?hc
  case hw => w_witness2
  case hc =>
    refine LamX.walk_ofTsE (l := PySem.Challenge.rw_ringsigns_k13_rings_by_own) (n := 63) (k := 7 * K13.depth) (x := "script") (CX := fun w => L2.CX PySem.Challenge.rw_ringsigns_k13_rings_by_own.prog w) rfl (by decide) (by kernel_rfl) ⟨rfl, by decide, by decide⟩ ?F (fun _ _ _ _ _ h => DL.cx_none h)
    intro w mg fa h Y G hmg0
    obtain ⟨K, KX, c⟩ := Y
    have hmg : mg ("law" : PySem.Str) = some (.ref fa) := by
      have e : (HandSHeadRun.topDef (OpenLaw.row PySem.Challenge.rw_ringsigns_k13_rings_by_own).prog 18).name = ("law" : PySem.Str) := by kernel_rfl
      rw [← e]; exact hmg0
    exact ⟨K, KX, DL.law_at K13.tAll K13.shAll KX G c (i := 15) (N := K13.depth) (d := K13.d15) rfl hmg rfl (fun F => DL.law_bind F fun _ _ _ _ _ _ s v => .of_eq rfl) K13.law_holds rfl⟩
