import PyProof.Rows.All
import Wide.All
import OpenK.AllK
import Wide.FinOn
import HandS.ForMost
import HandS.ForExc
import HandS.Wide
import HandS.IsInst
import HandS.ExcIs
import HandS.SortRule
import HandS.TupSets
import PySem.Challenge.RW_fewnotes_k23_the_notes
set_option Elab.async false
set_option linter.all false
set_option maxRecDepth 100000
set_option maxHeartbeats 4000000
namespace Z
open PySem PySem.Spec PyProof.Rows L2

/-! ### computations by what they promise -/
structure Er where
  cls : Nat
  arg : PyData := .none

structure W (α : Type) where
  run : (α → Prop) → Prop
  mono : ∀ (Φ Φ' : α → Prop), (∀ a, Φ a → Φ' a) → run Φ → run Φ'

namespace W
variable {α β γ : Type}
def ret (a : α) : W α := ⟨fun Φ => Φ a, fun _ _ h q => h a q⟩
def bind (c : W α) (f : α → W β) : W β := ⟨fun Φ => c.run (fun a => (f a).run Φ), fun Φ Φ' h q => c.mono _ _ (fun a z => (f a).mono _ _ h z) q⟩
def guard (p : Prop) (c : W α) : W α := ⟨fun Φ => p ∧ c.run Φ, fun _ _ h q => ⟨q.1, c.mono _ _ h q.2⟩⟩
def ite (b : Bool) (x y : W α) : W α := ⟨fun Φ => (b = true → x.run Φ) ∧ (b = false → y.run Φ), fun _ _ h q => ⟨fun e => x.mono _ _ h (q.1 e), fun e => y.mono _ _ h (q.2 e)⟩⟩
def opt (o : Option α) : W α := ⟨fun Φ => ∃ a, o = some a ∧ Φ a, fun _ _ h ⟨a, e, q⟩ => ⟨a, e, h a q⟩⟩
def bad : W α := ⟨fun _ => False, fun _ _ _ q => q⟩
end W

/-- an answer, or an error -/
inductive Ex (α : Type) where
  | ok (a : α) | er (e : Er)
/-- how a loop's turn ends -/
inductive Ctl (ρ S : Type) where
  | nx (s : S) | bk (s : S) | rt (r : ρ)

def CtlP {ρ S : Type} (N B : S → Prop) (Φ : ρ → Prop) : Ctl ρ S → Prop
  | .nx s => N s
  | .bk s => B s
  | .rt r => Φ r
theorem ctl_nx {ρ S : Type} {N B : S → Prop} {Φ : ρ → Prop} {s : S} (h : CtlP N B Φ (.nx s)) : N s := h
theorem ctl_bk {ρ S : Type} {N B : S → Prop} {Φ : ρ → Prop} {s : S} (h : CtlP N B Φ (.bk s)) : B s := h
theorem ctl_rt {ρ S : Type} {N B : S → Prop} {Φ : ρ → Prop} {r : ρ} (h : CtlP N B Φ (.rt r)) : Φ r := h
namespace W
variable {α β γ ρ S : Type}
def forL : List α → S → (α → S → W S) → W S
  | [], s, _ => ret s
  | x :: xs, s, f => bind (f x s) fun s' => forL xs s' f
/-- a loop that may be left -/
def forC : List α → S → (α → S → W (Ctl ρ S)) → W (Ctl ρ S)
  | [], s, _ => ret (.nx s)
  | x :: xs, s, f => bind (f x s) fun c => match c with
    | .nx s' => forC xs s' f
    | .bk s' => ret (.nx s')
    | .rt r => ret (.rt r)
def bind2 {α β γ : Type} (c : W (α × β)) (f : α → β → W γ) : W γ := ⟨fun Φ => c.run fun r => (f r.1 r.2).run Φ, fun Φ Φ' h q => c.mono _ _ (fun a z => (f a.1 a.2).mono _ _ h z) q⟩
def bindX {α β : Type} (c : W (Ex α)) (f : α → W (Ex β)) : W (Ex β) := bind c fun r => match r with
  | .ok a => f a
  | .er e => ret (.er e)
def after (c : Ctl ρ S) (k : S → W ρ) : W ρ := match c with
  | .nx s => k s
  | .bk s => k s
  | .rt r => ret r
def whileL : Nat → S → (S → W Bool) → (S → W S) → W S
  | 0, _, _, _ => bad
  | n + 1, s, t, f => bind (t s) fun b => ite b (bind (f s) fun s' => whileL n s' t f) (ret s)
end W

/-! ### data -/
class Py (α : Type) where
  toPy : α → PyData
abbrev toPy {α : Type} [Py α] (a : α) : PyData := Py.toPy a
structure P3 (α β γ : Type) where
  a : α
  b : β
  c : γ
  deriving DecidableEq
structure P4 (α β γ δ : Type) where
  a : α
  b : β
  c : γ
  d : δ
  deriving DecidableEq
instance : Py Int := ⟨.int⟩
instance : Py Bool := ⟨.bool⟩
instance : Py Str := ⟨.str⟩
instance : Py Unit := ⟨fun _ => .none⟩
instance : Py PyData := ⟨id⟩
instance {α : Type} [Py α] : Py (Option α) := ⟨fun o => match o with | none => .none | some a => toPy a⟩
instance {α : Type} [Py α] : Py (List α) := ⟨fun xs => .list (xs.map Py.toPy)⟩
instance {α β : Type} [Py α] [Py β] : Py (α × β) := ⟨fun p => .tuple [toPy p.1, toPy p.2]⟩
instance {α β γ : Type} [Py α] [Py β] [Py γ] : Py (P3 α β γ) := ⟨fun p => .tuple [toPy p.a, toPy p.b, toPy p.c]⟩
instance {α β γ δ : Type} [Py α] [Py β] [Py γ] [Py δ] : Py (P4 α β γ δ) := ⟨fun p => .tuple [toPy p.a, toPy p.b, toPy p.c, toPy p.d]⟩

section
variable {K : PySem.W.Frag} {H H' : Hp}
theorem Same.sqT {a : Addr} {xs : List V} (e : Same H H') (h : SqT K H a xs) : SqT K H' a xs := by
  rcases h with (h | ⟨o, h⟩) | h
  · exact .inl (.inl (e _ _ h))
  · exact .inl (.inr ⟨o, e _ _ h⟩)
  · exact .inr h
mutual
theorem dp_mono (e : Same H H') : ∀ (d : PyData) (v : V), Dp K H v d → Dp K H' v d
  | .none, _, h => by cases h; exact .non
  | .bool b, _, h => by cases h; exact .bl b
  | .int i, _, h => by cases h; exact .int i
  | .str x, _, h => by cases h; exact .str x
  | .list ds, _, h => by
    cases h with
    | lst hs ha => exact .lst (e.seq hs) (dpAll_mono e ds _ ha)
  | .tuple ds, _, h => by
    cases h with
    | tup hs ha => exact .tup (Same.sqT e hs) (dpAll_mono e ds _ ha)
  | .dict _, _, h => by cases h
theorem dpAll_mono (e : Same H H') : ∀ (ds : List PyData) (vs : List V), DpAll K H vs ds → DpAll K H' vs ds
  | [], _, h => by cases h; exact .nil
  | d :: ds, _, h => by
    cases h with
    | cons h1 h2 => exact .cons (dp_mono e d _ h1) (dpAll_mono e ds _ h2)
end
end

section
variable {K : PySem.W.Frag} {H H' : Hp} {α : Type} [Py α]
abbrev D (K : PySem.W.Frag) (H : Hp) (v : V) (x : α) : Prop := Dp K H v (toPy x)
abbrev DL (K : PySem.W.Frag) (H : Hp) (vs : List V) (xs : List α) : Prop := DpAll K H vs (xs.map Py.toPy)
theorem D.mo {v : V} {x : α} (h : D K H v x) (e : Same H H') : D K H' v x := dp_mono e _ _ h
theorem DL.mo {vs : List V} {xs : List α} (h : DL K H vs xs) (e : Same H H') : DL K H' vs xs := dpAll_mono e _ _ h
theorem d_int {v : V} {i : Int} (h : D K H v i) : v = .int i := by cases h; rfl
theorem d_bool {v : V} {i : Bool} (h : D K H v i) : v = .bl i := by cases h; rfl
theorem d_str {v : V} {i : Str} (h : D K H v i) : v = .str i := by cases h; rfl
theorem dpAll_len {vs : List V} : ∀ {ds : List PyData}, DpAll K H vs ds → vs.length = ds.length := by
  induction vs with
  | nil => intro ds h; cases h; rfl
  | cons v vs ih => intro ds h; cases h with | cons h1 h2 => simp [ih h2]
theorem DL.len {vs : List V} {xs : List α} (h : DL K H vs xs) : vs.length = xs.length := by
  have := dpAll_len h
  simpa using this
theorem dpAll_get {vs : List V} : ∀ {ds : List PyData} {i : Nat} {d : PyData}, DpAll K H vs ds → ds[i]? = some d → ∃ v, vs[i]? = some v ∧ Dp K H v d := by
  induction vs with
  | nil => intro ds i d h e; cases h; simp at e
  | cons v vs ih =>
    intro ds i d h e
    cases h with
    | cons h1 h2 =>
      cases i with
      | zero => simp at e; subst e; exact ⟨v, rfl, h1⟩
      | succ i => simpa using ih h2 (by simpa using e)
theorem DL.get {vs : List V} {xs : List α} {i : Nat} {x : α} (h : DL K H vs xs) (e : xs[i]? = some x) : ∃ v, vs[i]? = some v ∧ D K H v x :=
  dpAll_get h (by simp [e])
theorem DL.at {vs : List V} {xs : List α} {i : Int} {x : α} (h : DL K H vs xs) (e : atI xs i = some x) : ∃ v, atI vs i = some v ∧ D K H v x := by
  unfold atI at e ⊢
  rw [h.len]
  cases q : ixN xs.length i with
  | none => rw [q] at e; cases e
  | some j =>
    rw [q] at e
    exact h.get e
theorem dpAll_append {vs ws : List V} {ds es : List PyData} (h : DpAll K H vs ds) (h' : DpAll K H ws es) : DpAll K H (vs ++ ws) (ds ++ es) := by
  induction vs generalizing ds with
  | nil => cases h; exact h'
  | cons v vs ih => cases h with | cons h1 h2 => exact .cons h1 (ih h2)
theorem DL.append {vs ws : List V} {xs ys : List α} (h : DL K H vs xs) (h' : DL K H ws ys) : DL K H (vs ++ ws) (xs ++ ys) := by
  unfold DL; rw [List.map_append]; exact dpAll_append h h'
theorem DL.push {vs : List V} {xs : List α} {v : V} {x : α} (h : DL K H vs xs) (h' : D K H v x) : DL K H (vs ++ [v]) (xs ++ [x]) :=
  h.append (.cons h' .nil)
theorem dpAll_set {vs : List V} {ds : List PyData} {v : V} {d : PyData} (h : DpAll K H vs ds) (h' : Dp K H v d) (j : Nat) : DpAll K H (vs.set j v) (ds.set j d) := by
  induction vs generalizing ds j with
  | nil => cases h; exact .nil
  | cons u vs ih =>
    cases h with
    | cons h1 h2 =>
      cases j with
      | zero => exact .cons h' h2
      | succ j => exact .cons h1 (ih h2 j)
theorem DL.set {vs : List V} {xs : List α} {v : V} {x : α} (h : DL K H vs xs) (h' : D K H v x) (j : Nat) : DL K H (vs.set j v) (xs.set j x) := by
  unfold DL; rw [List.map_set]; exact dpAll_set h h' j
theorem dpAll_take {vs : List V} {ds : List PyData} (h : DpAll K H vs ds) (n : Nat) : DpAll K H (vs.take n) (ds.take n) := by
  induction n generalizing vs ds with
  | zero => exact .nil
  | succ n ih => cases h with | nil => exact .nil | cons h1 h2 => exact .cons h1 (ih h2)
theorem dpAll_drop {vs : List V} {ds : List PyData} (h : DpAll K H vs ds) (n : Nat) : DpAll K H (vs.drop n) (ds.drop n) := by
  induction n generalizing vs ds with
  | zero => exact h
  | succ n ih => cases h with | nil => exact .nil | cons h1 h2 => exact ih h2
def cut {α : Type} (xs : List α) (lo hi : Option Int) : List α := (xs.drop (HT.sIx xs.length 0 lo)).take (HT.sIx xs.length xs.length hi - HT.sIx xs.length 0 lo)
theorem DL.cut {vs : List V} {xs : List α} (h : DL K H vs xs) (lo hi : Option Int) : DL K H (cutV vs lo hi) (Z.cut xs lo hi) := by
  unfold DL cutV Z.cut
  rw [List.map_take, List.map_drop, h.len]
  exact dpAll_take (dpAll_drop h _) _
theorem dl_ints {vs : List V} : ∀ {xs : List Int}, DL K H vs xs → vs = xs.map V.int := by
  induction vs with
  | nil => intro xs h; cases xs with | nil => rfl | cons x xs => cases h
  | cons v vs ih =>
    intro xs h
    cases xs with
    | nil => cases h
    | cons x xs => cases h with | cons h1 h2 => rw [ih h2, d_int h1]; rfl
theorem dl_bools {vs : List V} : ∀ {xs : List Bool}, DL K H vs xs → vs = xs.map V.bl := by
  induction vs with
  | nil => intro xs h; cases xs with | nil => rfl | cons x xs => cases h
  | cons v vs ih =>
    intro xs h
    cases xs with
    | nil => cases h
    | cons x xs => cases h with | cons h1 h2 => rw [ih h2, d_bool h1]; rfl
theorem ints_dl : ∀ {xs : List Int}, DL K H (xs.map V.int) xs
  | [] => .nil
  | x :: xs => .cons (.int x) ints_dl
end

/-! ### the state: what stands for good (Ho), what may be written (rs) -/
structure Zs (rs : List (Addr × HO)) (H Ho : Hp) : Prop where
  le : Same Ho H
  rt : ∀ r ∈ rs, H r.1 = some r.2 ∧ Ho r.1 = none
  nd : (rs.map (·.1)).Nodup

section
variable {K : PySem.W.Frag} {H Ho H' Ho' : Hp} {rs : List (Addr × HO)} {p q : Addr} {o o' : HO}
theorem Zs.free (z : Zs rs H Ho) (h : H q = none) : Ho q = none := z.le.free h
theorem Zs.nin (z : Zs rs H Ho) (h : H q = none) : ∀ r ∈ rs, r.1 ≠ q := fun r hr e => by
  have := (z.rt r hr).1
  rw [e, h] at this
  cases this
/-- a new object that stays -/
theorem Zs.alloc (z : Zs rs H Ho) (h : H q = none) : Zs rs (upd H q o) (upd Ho q o) :=
  ⟨fun b x e => by
    by_cases hb : b = q
    · subst hb; rw [upd_same] at e ⊢; exact e
    · rw [upd_ne hb] at e ⊢; exact z.le b x e,
   fun r hr => by
    have ne := z.nin h r hr
    rw [upd_ne ne, upd_ne ne]; exact z.rt r hr, z.nd⟩
theorem Same.new (h : Ho q = none) : Same Ho (upd Ho q o) := fun b x e => by
  rw [upd_ne (ne_of_none e h)]; exact e
/-- a new object that may be written -/
theorem Zs.root (z : Zs rs H Ho) (h : H q = none) : Zs ((q, o) :: rs) (upd H q o) Ho :=
  ⟨fun b x e => by
    rw [upd_ne (ne_of_none (z.le b x e) h)]; exact z.le b x e,
   fun r hr => by
    rcases List.mem_cons.mp hr with e | hr
    · subst e; exact ⟨upd_same, z.free h⟩
    · rw [upd_ne (z.nin h r hr)]; exact z.rt r hr,
   List.nodup_cons.mpr ⟨fun hm => by
    obtain ⟨r, hr, e⟩ := List.mem_map.mp hm
    exact z.nin h r hr e, z.nd⟩⟩
theorem Zs.put (z : Zs ((p, o) :: rs) H Ho) : Zs ((p, o') :: rs) (upd H p o') Ho :=
  ⟨fun b x e => by
    have np : b ≠ p := fun e' => by subst e'; rw [(z.rt _ List.mem_cons_self).2] at e; cases e
    rw [upd_ne np]; exact z.le b x e,
   fun r hr => by
    rcases List.mem_cons.mp hr with e | hr
    · subst e; exact ⟨upd_same, (z.rt _ List.mem_cons_self).2⟩
    · have np : r.1 ≠ p := fun e' => by
        have := (List.nodup_cons.mp z.nd).1
        exact this (List.mem_map.mpr ⟨r, hr, e'⟩)
      rw [upd_ne np]; exact z.rt r (List.mem_cons_of_mem _ hr), z.nd⟩
theorem Zs.tail (z : Zs ((p, o) :: rs) H Ho) : Zs rs H Ho :=
  ⟨z.le, fun r hr => z.rt r (List.mem_cons_of_mem _ hr), (List.nodup_cons.mp z.nd).2⟩
theorem Zs.head (z : Zs ((p, o) :: rs) H Ho) : H p = some o := (z.rt _ List.mem_cons_self).1
theorem Zs.headN (z : Zs ((p, o) :: rs) H Ho) : Ho p = none := (z.rt _ List.mem_cons_self).2
/-- what may be written stands for good from now on -/
theorem Zs.freeze (z : Zs ((p, o) :: rs) H Ho) : Zs rs H (upd Ho p o) :=
  ⟨fun b x e => by
    by_cases hb : b = p
    · subst hb; rw [upd_same] at e; rw [← e]; exact z.head
    · rw [upd_ne hb] at e; exact z.le b x e,
   fun r hr => by
    have np : r.1 ≠ p := fun e' => (List.nodup_cons.mp z.nd).1 (List.mem_map.mpr ⟨r, hr, e'⟩)
    rw [upd_ne np]; exact z.rt r (List.mem_cons_of_mem _ hr), (List.nodup_cons.mp z.nd).2⟩
theorem Zs.perm {rs' : List (Addr × HO)} (z : Zs rs H Ho) (h : rs.Perm rs') : Zs rs' H Ho :=
  ⟨z.le, fun r hr => z.rt r (h.mem_iff.mpr hr), (h.map _).nodup_iff.mp z.nd⟩
theorem perm1 {α : Type} {a b : α} {l : List α} : (a :: b :: l).Perm (b :: a :: l) := List.Perm.swap b a l
theorem perm2 {α : Type} {a b c : α} {l : List α} : (a :: b :: c :: l).Perm (c :: a :: b :: l) :=
  (List.Perm.cons a (List.Perm.swap c b l)).trans (List.Perm.swap c a (b :: l))
theorem perm2' {α : Type} {a b c : α} {l : List α} : (c :: a :: b :: l).Perm (a :: b :: c :: l) := perm2.symm
theorem perm3 {α : Type} {a b c d : α} {l : List α} : (a :: b :: c :: d :: l).Perm (d :: a :: b :: c :: l) :=
  (List.Perm.cons a perm2).trans (List.Perm.swap d a (b :: c :: l))
theorem perm3' {α : Type} {a b c d : α} {l : List α} : (d :: a :: b :: c :: l).Perm (a :: b :: c :: d :: l) := perm3.symm
theorem Zs.sw1 {a b : Addr × HO} (z : Zs (a :: b :: rs) H Ho) : Zs (b :: a :: rs) H Ho := z.perm perm1
theorem Zs.sw2 {a b c : Addr × HO} (z : Zs (a :: b :: c :: rs) H Ho) : Zs (c :: a :: b :: rs) H Ho := z.perm perm2
theorem Zs.sw2' {a b c : Addr × HO} (z : Zs (c :: a :: b :: rs) H Ho) : Zs (a :: b :: c :: rs) H Ho := z.perm perm2'
theorem Zs.sw3 {a b c d : Addr × HO} (z : Zs (a :: b :: c :: d :: rs) H Ho) : Zs (d :: a :: b :: c :: rs) H Ho := z.perm perm3
theorem Zs.sw3' {a b c d : Addr × HO} (z : Zs (d :: a :: b :: c :: rs) H Ho) : Zs (a :: b :: c :: d :: rs) H Ho := z.perm perm3'
end

/-- a list that is read -/
def LV {α : Type} [Py α] (K : PySem.W.Frag) (rs : List (Addr × HO)) (Ho : Hp) (v : V) (xs : List α) : Prop :=
  ∃ p vs, v = .ref p ∧ DL K Ho vs xs ∧ (SqL K Ho p vs ∨ (p, HO.lst vs) ∈ rs)
section
variable {K : PySem.W.Frag} {H Ho H' Ho' : Hp} {rs rs' : List (Addr × HO)} {α : Type} [Py α] {v : V} {xs : List α}
theorem LV.mo (h : LV K rs Ho v xs) (e : Same Ho Ho') : LV K rs Ho' v xs := by
  obtain ⟨p, vs, rfl, d, s⟩ := h
  exact ⟨p, vs, rfl, DL.mo d e, s.imp (fun s => e.seq s) id⟩
theorem LV.sub (h : LV K rs Ho v xs) (e : ∀ r ∈ rs, r ∈ rs') : LV K rs' Ho v xs := by
  obtain ⟨p, vs, rfl, d, s⟩ := h
  exact ⟨p, vs, rfl, d, s.imp id (e _)⟩
theorem LV.cons {r : Addr × HO} (h : LV K rs Ho v xs) : LV K (r :: rs) Ho v xs := h.sub fun _ m => List.mem_cons_of_mem _ m
theorem LV.of (h : D K Ho v xs) : LV K rs Ho v xs := by
  cases h with
  | lst hs ha => exact ⟨_, _, rfl, ha, .inl hs⟩
theorem LV.rd (h : LV K rs Ho v xs) (z : Zs rs H Ho) : ∃ p vs, v = .ref p ∧ DL K Ho vs xs ∧ SqL K H p vs := by
  obtain ⟨p, vs, rfl, d, s⟩ := h
  refine ⟨p, vs, rfl, d, ?_⟩
  rcases s with s | s
  · exact z.le.seq s
  · exact SqL.of (z.rt _ s).1
theorem LV.dp (h : LV K rs Ho v xs) (z : Zs rs H Ho) : D K H v xs := by
  obtain ⟨p, vs, rfl, d, s⟩ := h.rd z
  exact .lst s (DL.mo d z.le)
theorem lv_root {p : Addr} {vs : List V} (d : DL K Ho vs xs) (m : (p, HO.lst vs) ∈ rs) : LV K rs Ho (.ref p) xs := ⟨p, vs, rfl, d, .inr m⟩
end


/-! ### more rules of the machine -/
section
variable {X : Cx}
def rCatS (K : PySem.W.Frag) : R2 := fun x y H Q => ∃ l b xs zs, x = .ref l ∧ y = .ref b ∧ SqL K H l xs ∧ SqL K H b zs ∧ xs.length + zs.length ≤ sizeLine ∧ ∀ p, H p = none → Q (.ref p) (upd H p (.lst (xs ++ zs)))
theorem op_catS : OpR X (binaryOp .Add) (rCatS X.K) := by
  intro pins s σ H x y v u Q I rx ry h
  obtain ⟨l, b, xs, zs, rfl, rfl, hH, hB, hz, q⟩ := h
  cases rx
  cases ry
  obtain ⟨its, r, pl, _⟩ := I.list hH
  obtain ⟨its2, r2, pl2, _⟩ := I.list hB
  have hl := r.length
  have hl2 := r2.length
  obtain ⟨⟨cls, dd, data, sl⟩, ho, hc, n, hd⟩ := pl.isList
  obtain ⟨⟨cls2, dd2, data2, sl2⟩, ho2, hc2, n2, hd2⟩ := pl2.isList
  simp only at hc hd hc2 hd2
  subst hc hd hc2 hd2
  have ea : its.toArray ++ its2.toArray = (its ++ its2).toArray := by simp
  refine concat_meets ⟨_, ho, rfl⟩ ⟨_, ho2, rfl⟩ noFill_list_add seq_list_add PySem.F.slot_list_add PySem.F.entry_list_add (PySem.F.args_list_add_2 _ _) (list_addW l b its.toArray its2.toArray n n2 dd dd2 sl sl2 (by simp only [List.size_toArray]; omega)) ⟨ho, ho2, ?_⟩
  rw [ea]
  exact ⟨.ref _, _, I.lnew (t' := s.toks) (r.append r2) (by rw [List.length_append]; omega), rfl, q _ I.fresh⟩
/-- xs[i] as the old value of xs[i] op= e -/
theorem get_list : PGet X (rIxL X.K) := by
  intro pins s σ H o i ov iv Q I ro ri h
  obtain ⟨p, xs, i, z, rfl, rfl, hq, he, q⟩ := h
  cases ro
  obtain ⟨t, rfl⟩ := ri
  obtain ⟨its, r, pl, hz⟩ := I.list hq
  obtain ⟨j, h1, h2, h3, h4, h5⟩ := atI_get he
  obtain ⟨w, ew, rw'⟩ := r.get h2
  have hl := r.length
  have hn := line63
  have fin : EP X pins σ Q w s := ⟨z, H, I, rw', q⟩
  by_cases h0 : 0 ≤ i
  · have hj : i.toNat = j := by
      rw [seqIndex_of h0 h5] at h1
      exact Option.some.inj h1
    exact wpAny_getItem_list pl.isList h0 (by omega) (by rw [hj]; simpa using ew) fin
  · have hj : (i + (its.toArray.size : Int)).toNat = j := by
      rw [seqIndex_neg (by omega) h4] at h1
      rw [List.size_toArray, ← hl]
      exact Option.some.inj h1
    exact wpAny_getItem_list_neg pl.isList (by omega) (by rw [List.size_toArray] <;> omega) (by omega) (by rw [hj]; simpa using ew) fin
end

/-- how a value may stand for data, by what stands for good -/
abbrev Pm (β : Type) := List (Addr × HO) → Hp → V → β → Prop
def PD {β : Type} [Py β] (K : PySem.W.Frag) : Pm β := fun _ Ho v x => D K Ho v x
def PL {α : Type} [Py α] (K : PySem.W.Frag) : Pm (List α) := fun rs Ho v x => LV K rs Ho v x
/-- data that may be read now and later, while the roots stand -/
def PQ {β : Type} [Py β] (K : PySem.W.Frag) : Pm β := fun rs Ho v x => ∀ H' Ho', Same Ho Ho' → Zs rs H' Ho' → D K H' v x
class Mo {β : Type} (P : Pm β) : Prop where
  mo : ∀ {rs Ho Ho' v x}, P rs Ho v x → Same Ho Ho' → P rs Ho' v x
  co : ∀ {r rs Ho v x}, P rs Ho v x → P (r :: rs) Ho v x
instance {β : Type} [Py β] {K : PySem.W.Frag} : Mo (PD (β := β) K) := ⟨fun h e => D.mo h e, fun h => h⟩
instance {α : Type} [Py α] {K : PySem.W.Frag} : Mo (PL (α := α) K) := ⟨fun h e => LV.mo h e, fun h => LV.cons h⟩
instance {β : Type} [Py β] {K : PySem.W.Frag} : Mo (PQ (β := β) K) := ⟨fun h e H' Ho' e' z => h H' Ho' (e.trans e') z, fun h H' Ho' e z => h H' Ho' e z.tail⟩

/-- an expression's reading computes c -/
def Ev {β : Type} (rs : List (Addr × HO)) (te : TE) (σ : L2.St) (Ho : Hp) (P : Pm β) (c : W β) : Prop :=
  ∀ H1 Ho1, Same Ho Ho1 → Zs rs H1 Ho1 → ∀ (Φ : β → Prop) (Q : VK), c.run Φ → (∀ x v H2 Ho2, Same Ho1 Ho2 → Zs rs H2 Ho2 → P rs Ho2 v x → Φ x → Q v H2) → te σ H1 Q
/-- .. a new list, still the holder's own -/
def Ef {α : Type} [Py α] (K : PySem.W.Frag) (rs : List (Addr × HO)) (te : TE) (σ : L2.St) (Ho : Hp) (c : W (List α)) : Prop :=
  ∀ H1 Ho1, Same Ho Ho1 → Zs rs H1 Ho1 → ∀ (Φ : List α → Prop) (Q : VK), c.run Φ → (∀ x p vs H2 Ho2, Same Ho1 Ho2 → Zs ((p, .lst vs) :: rs) H2 Ho2 → DL K Ho2 vs x → Φ x → Q (.ref p) H2) → te σ H1 Q
/-- a test -/
def Et (rs : List (Addr × HO)) (tt : TT) (σ : L2.St) (Ho : Hp) (c : W Bool) : Prop :=
  ∀ H1 Ho1, Same Ho Ho1 → Zs rs H1 Ho1 → ∀ (Φ : Bool → Prop) (Q : Bool → Hp → Prop), c.run Φ → (∀ x H2 Ho2, Same Ho1 Ho2 → Zs rs H2 Ho2 → Φ x → Q x H2) → tt σ H1 Q
/-- .. that writes the list at p -/
def Em {β α : Type} [Py β] [Py α] (K : PySem.W.Frag) (p : Addr) (rs : List (Addr × HO)) (te : TE) (σ : L2.St) (Ho : Hp) (c : List α → W (β × List α)) : Prop :=
  ∀ H1 Ho1 ws xs, Same Ho Ho1 → Zs ((p, .lst ws) :: rs) H1 Ho1 → DL K Ho1 ws xs → ∀ (Φ : β × List α → Prop) (Q : VK), (c xs).run Φ →
    (∀ x xs' v ws' H2 Ho2, Same Ho1 Ho2 → Zs ((p, .lst ws') :: rs) H2 Ho2 → DL K Ho2 ws' xs' → D K Ho2 v x → Φ (x, xs') → Q v H2) → te σ H1 Q
def Emt {α : Type} [Py α] (K : PySem.W.Frag) (p : Addr) (rs : List (Addr × HO)) (tt : TT) (σ : L2.St) (Ho : Hp) (c : List α → W (Bool × List α)) : Prop :=
  ∀ H1 Ho1 ws xs, Same Ho Ho1 → Zs ((p, .lst ws) :: rs) H1 Ho1 → DL K Ho1 ws xs → ∀ (Φ : Bool × List α → Prop) (Q : Bool → Hp → Prop), (c xs).run Φ →
    (∀ x xs' ws' H2 Ho2, Same Ho1 Ho2 → Zs ((p, .lst ws') :: rs) H2 Ho2 → DL K Ho2 ws' xs' → Φ (x, xs') → Q x H2) → tt σ H1 Q
/-- .. a new list, the list at p written -/
def Emf {β α : Type} [Py β] [Py α] (K : PySem.W.Frag) (p : Addr) (rs : List (Addr × HO)) (te : TE) (σ : L2.St) (Ho : Hp) (c : List α → W (List β × List α)) : Prop :=
  ∀ H1 Ho1 ws xs, Same Ho Ho1 → Zs ((p, .lst ws) :: rs) H1 Ho1 → DL K Ho1 ws xs → ∀ (Φ : List β × List α → Prop) (Q : VK), (c xs).run Φ →
    (∀ x xs' q vs ws' H2 Ho2, Same Ho1 Ho2 → Zs ((q, .lst vs) :: (p, .lst ws') :: rs) H2 Ho2 → DL K Ho2 ws' xs' → DL K Ho2 vs x → Φ (x, xs') → Q (.ref q) H2) → te σ H1 Q
/-- an operator by values; a built-in's call by values -/
def VOp {β γ δ : Type} (r : R2) (Pa : Pm β) (Pb : Pm γ) (P : Pm δ) (f : β → γ → W δ) : Prop :=
  ∀ rs x v y u H Ho, Zs rs H Ho → Pa rs Ho v x → Pb rs Ho u y → ∀ (Φ : δ → Prop) (Q : VK), (f x y).run Φ → (∀ t w H' Ho', Same Ho Ho' → Zs rs H' Ho' → P rs Ho' w t → Φ t → Q w H') → r v u H Q
def VOpF {β γ α : Type} [Py α] (K : PySem.W.Frag) (r : R2) (Pa : Pm β) (Pb : Pm γ) (f : β → γ → W (List α)) : Prop :=
  ∀ rs x v y u H Ho, Zs rs H Ho → Pa rs Ho v x → Pb rs Ho u y → ∀ (Φ : List α → Prop) (Q : VK), (f x y).run Φ → (∀ t p vs H' Ho', Same Ho Ho' → Zs ((p, .lst vs) :: rs) H' Ho' → DL K Ho' vs t → Φ t → Q (.ref p) H') → r v u H Q
def VC1 {β δ : Type} (r : List V → Hp → VK → Prop) (Pa : Pm β) (P : Pm δ) (f : β → W δ) : Prop :=
  ∀ rs x v H Ho, Zs rs H Ho → Pa rs Ho v x → ∀ (Φ : δ → Prop) (Q : VK), (f x).run Φ → (∀ t w H' Ho', Same Ho Ho' → Zs rs H' Ho' → P rs Ho' w t → Φ t → Q w H') → r [v] H Q
def VC1F {β α : Type} [Py α] (K : PySem.W.Frag) (r : List V → Hp → VK → Prop) (Pa : Pm β) (f : β → W (List α)) : Prop :=
  ∀ rs x v H Ho, Zs rs H Ho → Pa rs Ho v x → ∀ (Φ : List α → Prop) (Q : VK), (f x).run Φ → (∀ t p vs H' Ho', Same Ho Ho' → Zs ((p, .lst vs) :: rs) H' Ho' → DL K Ho' vs t → Φ t → Q (.ref p) H') → r [v] H Q
def VC2 {β γ δ : Type} (r : List V → Hp → VK → Prop) (Pa : Pm β) (Pb : Pm γ) (P : Pm δ) (f : β → γ → W δ) : Prop :=
  ∀ rs x v y u H Ho, Zs rs H Ho → Pa rs Ho v x → Pb rs Ho u y → ∀ (Φ : δ → Prop) (Q : VK), (f x y).run Φ → (∀ t w H' Ho', Same Ho Ho' → Zs rs H' Ho' → P rs Ho' w t → Φ t → Q w H') → r [v, u] H Q

section
variable {K : PySem.W.Frag} {rs : List (Addr × HO)} {σ : L2.St} {Ho : Hp} {ta tb tc te : TE} {tt tu : TT} {ts : TA}
/-! ### names, constants, turns of kind -/
theorem ev_v {β : Type} {P : Pm β} [Mo P] {i : Nat} {v : V} {x : β} {c : W β} (d : P rs Ho v x) (h : σ[i]? = some (some v)) (hc : c = W.ret x) : Ev rs (tVar i) σ Ho P c := by
  subst hc
  intro H1 Ho1 e z Φ Q hw k
  exact ⟨v, h, k x v H1 Ho1 (Same.refl _) z (Mo.mo d e) hw⟩
theorem ev_var {β : Type} [Py β] {i : Nat} {v : V} {x : β} {c : W β} (d : D K Ho v x) (h : σ[i]? = some (some v)) (hc : c = W.ret x) : Ev rs (tVar i) σ Ho (PD K) c := ev_v (P := PD K) d h hc
theorem ev_varL {α : Type} [Py α] {i : Nat} {v : V} {x : List α} {c : W (List α)} (d : LV K rs Ho v x) (h : σ[i]? = some (some v)) (hc : c = W.ret x) : Ev rs (tVar i) σ Ho (PL K) c := ev_v (P := PL K) d h hc
theorem ev_cst {β : Type} [Py β] {v : V} {x : β} {c : W β} (d : ∀ H, D K H v x) (hc : c = W.ret x) : Ev rs (tC v) σ Ho (PD K) c := by
  subst hc
  intro H1 Ho1 e z Φ Q hw k
  exact k x v H1 Ho1 (Same.refl _) z (d _) hw
theorem ev_int {i : Int} {c : W Int} (hc : c = W.ret i) : Ev rs (tC (.int i)) σ Ho (PD K) c := ev_cst (fun _ => .int i) hc
theorem ev_bl {i : Bool} {c : W Bool} (hc : c = W.ret i) : Ev rs (tC (.bl i)) σ Ho (PD K) c := ev_cst (fun _ => .bl i) hc
theorem ev_str {i : Str} {c : W Str} (hc : c = W.ret i) : Ev rs (tC (.str i)) σ Ho (PD K) c := ev_cst (fun _ => .str i) hc
theorem ev_non {c : W Unit} (hc : c = W.ret ()) : Ev rs (tC .non) σ Ho (PD K) c := ev_cst (fun _ => .non) hc
theorem ev_nonO {β : Type} [Py β] {c : W (Option β)} (hc : c = W.ret none) : Ev rs (tC .non) σ Ho (PD K) c := ev_cst (fun _ => .non) hc
theorem ev_some {β : Type} [Py β] {ca : W β} {c : W (Option β)} (h : Ev rs te σ Ho (PD K) ca) (hc : c = W.bind ca fun a => W.ret (some a)) : Ev rs te σ Ho (PD K) c := by
  subst hc
  intro H1 Ho1 e z Φ Q hw k
  exact h H1 Ho1 e z _ Q hw fun x v H2 Ho2 e2 z2 r hw => k (some x) v H2 Ho2 e2 z2 r hw
theorem ef_D {α : Type} [Py α] {c : W (List α)} (h : Ef K rs te σ Ho c) : Ev rs te σ Ho (PD K) c := by
  intro H1 Ho1 e z Φ Q hw k
  refine h H1 Ho1 e z Φ Q hw fun x p vs H2 Ho2 e2 z2 d hw => ?_
  have e3 : Same Ho2 (upd Ho2 p (.lst vs)) := Same.new z2.headN
  exact k x (.ref p) H2 _ (e2.trans e3) z2.freeze (.lst (SqL.of upd_same) (DL.mo d e3)) hw
theorem ev_turn {β : Type} {P P' : Pm β} {c : W β} (t : ∀ {rs Ho v x}, P rs Ho v x → P' rs Ho v x) (h : Ev rs te σ Ho P c) : Ev rs te σ Ho P' c := by
  intro H1 Ho1 e z Φ Q hw k
  exact h H1 Ho1 e z Φ Q hw fun x v H2 Ho2 e2 z2 r hw => k x v H2 Ho2 e2 z2 (t r) hw
theorem ev_DL {α : Type} [Py α] {c : W (List α)} (h : Ev rs te σ Ho (PD K) c) : Ev rs te σ Ho (PL K) c := ev_turn (fun r => LV.of r) h
theorem ev_DQ {β : Type} [Py β] {c : W β} (h : Ev rs te σ Ho (PD K) c) : Ev rs te σ Ho (PQ K) c := ev_turn (fun r _ _ e z => D.mo (D.mo r e) z.le) h
theorem ev_LQ {α : Type} [Py α] {c : W (List α)} (h : Ev rs te σ Ho (PL K) c) : Ev rs te σ Ho (PQ K) c := ev_turn (fun r _ _ e z => LV.dp (LV.mo r e) z) h
theorem ef_L {α : Type} [Py α] {c : W (List α)} (h : Ef K rs te σ Ho c) : Ev rs te σ Ho (PL K) c := ev_DL (ef_D h)
theorem ef_Q {α : Type} [Py α] {c : W (List α)} (h : Ef K rs te σ Ho c) : Ev rs te σ Ho (PQ K) c := ev_DQ (ef_D h)
variable {p : Addr}
/-- what writes nothing -/
theorem em_of {β α : Type} [Py β] [Py α] {c : W β} {cm : List α → W (β × List α)} (h : ∀ ws, Ev ((p, .lst ws) :: rs) te σ Ho (PD K) c) (hc : cm = fun s => W.bind c fun x => W.ret (x, s)) : Em K p rs te σ Ho cm := by
  subst hc
  intro H1 Ho1 ws xs e z d Φ Q hw k
  exact h ws H1 Ho1 e z _ Q hw fun x v H2 Ho2 e2 z2 r hw => k x xs v ws H2 Ho2 e2 z2 (DL.mo d e2) r hw
theorem emt_of {α : Type} [Py α] {c : W Bool} {cm : List α → W (Bool × List α)} (h : ∀ ws, Et ((p, .lst ws) :: rs) tt σ Ho c) (hc : cm = fun s => W.bind c fun x => W.ret (x, s)) : Emt K p rs tt σ Ho cm := by
  subst hc
  intro H1 Ho1 ws xs e z d Φ Q hw k
  exact h ws H1 Ho1 e z _ Q hw fun x H2 Ho2 e2 z2 hw => k x xs ws H2 Ho2 e2 z2 (DL.mo d e2) hw
theorem emf_D {β α : Type} [Py β] [Py α] {c : List α → W (List β × List α)} (h : Emf K p rs te σ Ho c) : Em K p rs te σ Ho c := by
  intro H1 Ho1 ws xs e z d Φ Q hw k
  refine h H1 Ho1 ws xs e z d Φ Q hw fun x xs' q vs ws' H2 Ho2 e2 z2 d2 dv hw => ?_
  have e3 : Same Ho2 (upd Ho2 q (.lst vs)) := Same.new z2.headN
  exact k x xs' (.ref q) ws' H2 _ (e2.trans e3) z2.freeze (DL.mo d2 e3) (.lst (SqL.of upd_same) (DL.mo dv e3)) hw

/-! ### operators -/
theorem ev_op {β γ δ : Type} {Pa : Pm β} {Pb : Pm γ} {P : Pm δ} [Mo Pa] {r : R2} {ca : W β} {cb : W γ} {f : β → γ → W δ} {c : W δ} (hop : VOp r Pa Pb P f) (ha : Ev rs ta σ Ho Pa ca) (hb : Ev rs tb σ Ho Pb cb)
    (hc : c = W.bind ca fun a => W.bind cb fun b => f a b) : Ev rs (tOp r ta tb) σ Ho P c := by
  subst hc
  intro H1 Ho1 e z Φ Q hw k
  refine ha H1 Ho1 e z _ _ hw fun x v H2 Ho2 e2 z2 r2 hw => ?_
  refine hb H2 Ho2 (e.trans e2) z2 _ _ hw fun y u H3 Ho3 e3 z3 r3 hw => ?_
  exact hop rs x v y u H3 Ho3 z3 (Mo.mo r2 e3) r3 Φ Q hw fun t w H' Ho' e' => k t w H' Ho' (e2.trans (e3.trans e'))
theorem ef_op {β γ α : Type} [Py α] {Pa : Pm β} {Pb : Pm γ} [Mo Pa] {r : R2} {ca : W β} {cb : W γ} {f : β → γ → W (List α)} {c : W (List α)} (hop : VOpF K r Pa Pb f) (ha : Ev rs ta σ Ho Pa ca) (hb : Ev rs tb σ Ho Pb cb)
    (hc : c = W.bind ca fun a => W.bind cb fun b => f a b) : Ef K rs (tOp r ta tb) σ Ho c := by
  subst hc
  intro H1 Ho1 e z Φ Q hw k
  refine ha H1 Ho1 e z _ _ hw fun x v H2 Ho2 e2 z2 r2 hw => ?_
  refine hb H2 Ho2 (e.trans e2) z2 _ _ hw fun y u H3 Ho3 e3 z3 r3 hw => ?_
  exact hop rs x v y u H3 Ho3 z3 (Mo.mo r2 e3) r3 Φ Q hw fun t w vs H' Ho' e' => k t w vs H' Ho' (e2.trans (e3.trans e'))
theorem em_op {β γ δ α : Type} [Py β] [Py γ] [Py δ] [Py α] {r : R2} {ca : List α → W (β × List α)} {cb : List α → W (γ × List α)} {f : β → γ → W δ} {c : List α → W (δ × List α)} (hop : VOp r (PD K) (PD K) (PD K) f) (ha : Em K p rs ta σ Ho ca) (hb : Em K p rs tb σ Ho cb)
    (hc : c = fun s => W.bind2 (ca s) fun a s1 => W.bind2 (cb s1) fun b s2 => W.bind (f a b) fun y => W.ret (y, s2)) : Em K p rs (tOp r ta tb) σ Ho c := by
  subst hc
  intro H1 Ho1 ws xs e z d Φ Q hw k
  refine ha H1 Ho1 ws xs e z d _ _ hw fun x xs2 v ws2 H2 Ho2 e2 z2 d2 r2 hw => ?_
  refine hb H2 Ho2 ws2 xs2 (e.trans e2) z2 d2 _ _ hw fun y xs3 u ws3 H3 Ho3 e3 z3 d3 r3 hw => ?_
  exact hop _ x v y u H3 Ho3 z3 (D.mo r2 e3) r3 _ Q hw fun t w H' Ho' e' z' r' hw => k t xs3 w ws3 H' Ho' (e2.trans (e3.trans e')) z' (DL.mo d3 e') r' hw
/-- .. whose first operand is a list that is read, of data -/
theorem em_opL {β γ δ α : Type} [Py β] [Py γ] [Py δ] [Py α] {r : R2} {ca : List α → W (List β × List α)} {cb : List α → W (γ × List α)} {f : List β → γ → W δ} {c : List α → W (δ × List α)} (hop : VOp r (PL K) (PD K) (PD K) f) (ha : Em K p rs ta σ Ho ca) (hb : Em K p rs tb σ Ho cb)
    (hc : c = fun s => W.bind2 (ca s) fun a s1 => W.bind2 (cb s1) fun b s2 => W.bind (f a b) fun y => W.ret (y, s2)) : Em K p rs (tOp r ta tb) σ Ho c := by
  subst hc
  intro H1 Ho1 ws xs e z d Φ Q hw k
  refine ha H1 Ho1 ws xs e z d _ _ hw fun x xs2 v ws2 H2 Ho2 e2 z2 d2 r2 hw => ?_
  refine hb H2 Ho2 ws2 xs2 (e.trans e2) z2 d2 _ _ hw fun y xs3 u ws3 H3 Ho3 e3 z3 d3 r3 hw => ?_
  exact hop _ x v y u H3 Ho3 z3 (LV.of (D.mo r2 e3)) r3 _ Q hw fun t w H' Ho' e' z' r' hw => k t xs3 w ws3 H' Ho' (e2.trans (e3.trans e')) z' (DL.mo d3 e') r' hw
/-- .. a list of the caller's, that is read -/
theorem em_opV {β γ δ α : Type} [Py β] [Py γ] [Py δ] [Py α] {r : R2} {ca : W (List β)} {cb : List α → W (γ × List α)} {f : List β → γ → W δ} {c : List α → W (δ × List α)} (hop : VOp r (PL K) (PD K) (PD K) f)
    (ha : ∀ ws H1 Ho1, Same Ho Ho1 → Zs ((p, .lst ws) :: rs) H1 Ho1 → ∀ (Φ : List β → Prop) (Q : VK), ca.run Φ → (∀ x v H2 Ho2, Same Ho1 Ho2 → Zs ((p, .lst ws) :: rs) H2 Ho2 → LV K rs Ho2 v x → Φ x → Q v H2) → ta σ H1 Q) (hb : Em K p rs tb σ Ho cb)
    (hc : c = fun s => W.bind ca fun a => W.bind2 (cb s) fun b s2 => W.bind (f a b) fun y => W.ret (y, s2)) : Em K p rs (tOp r ta tb) σ Ho c := by
  subst hc
  intro H1 Ho1 ws xs e z d Φ Q hw k
  refine ha ws H1 Ho1 e z _ _ hw fun x v H2 Ho2 e2 z2 r2 hw => ?_
  refine hb H2 Ho2 ws xs (e.trans e2) z2 (DL.mo d e2) _ _ hw fun y xs3 u ws3 H3 Ho3 e3 z3 d3 r3 hw => ?_
  exact hop _ x v y u H3 Ho3 z3 (LV.cons (LV.mo r2 e3)) r3 _ Q hw fun t w H' Ho' e' z' r' hw => k t xs3 w ws3 H' Ho' (e2.trans (e3.trans e')) z' (DL.mo d3 e') r' hw
theorem ev_c1 {β δ : Type} {Pa : Pm β} {P : Pm δ} {r : List V → Hp → VK → Prop} {ca : W β} {f : β → W δ} {c : W δ} (hop : VC1 r Pa P f) (ha : Ev rs ta σ Ho Pa ca) (hc : c = W.bind ca f) : Ev rs (tCB r (tCons ta tNil)) σ Ho P c := by
  subst hc
  intro H1 Ho1 e z Φ Q hw k
  refine ha H1 Ho1 e z _ _ hw fun x v H2 Ho2 e2 z2 r2 hw => ?_
  exact hop rs x v H2 Ho2 z2 r2 Φ Q hw fun t w H' Ho' e' => k t w H' Ho' (e2.trans e')
theorem ef_c1 {β α : Type} [Py α] {Pa : Pm β} {r : List V → Hp → VK → Prop} {ca : W β} {f : β → W (List α)} {c : W (List α)} (hop : VC1F K r Pa f) (ha : Ev rs ta σ Ho Pa ca) (hc : c = W.bind ca f) : Ef K rs (tCB r (tCons ta tNil)) σ Ho c := by
  subst hc
  intro H1 Ho1 e z Φ Q hw k
  refine ha H1 Ho1 e z _ _ hw fun x v H2 Ho2 e2 z2 r2 hw => ?_
  exact hop rs x v H2 Ho2 z2 r2 Φ Q hw fun t w vs H' Ho' e' => k t w vs H' Ho' (e2.trans e')
theorem ev_c2 {β γ δ : Type} {Pa : Pm β} {Pb : Pm γ} {P : Pm δ} [Mo Pa] {r : List V → Hp → VK → Prop} {ca : W β} {cb : W γ} {f : β → γ → W δ} {c : W δ} (hop : VC2 r Pa Pb P f) (ha : Ev rs ta σ Ho Pa ca) (hb : Ev rs tb σ Ho Pb cb)
    (hc : c = W.bind ca fun a => W.bind cb fun b => f a b) : Ev rs (tCB r (tCons ta (tCons tb tNil))) σ Ho P c := by
  subst hc
  intro H1 Ho1 e z Φ Q hw k
  refine ha H1 Ho1 e z _ _ hw fun x v H2 Ho2 e2 z2 r2 hw => ?_
  refine hb H2 Ho2 (e.trans e2) z2 _ _ hw fun y u H3 Ho3 e3 z3 r3 hw => ?_
  exact hop rs x v y u H3 Ho3 z3 (Mo.mo r2 e3) r3 Φ Q hw fun t w H' Ho' e' => k t w H' Ho' (e2.trans (e3.trans e'))
theorem em_c1 {β δ α : Type} [Py β] [Py δ] [Py α] {r : List V → Hp → VK → Prop} {ca : List α → W (β × List α)} {f : β → W δ} {c : List α → W (δ × List α)} (hop : VC1 r (PD K) (PD K) f) (ha : Em K p rs ta σ Ho ca)
    (hc : c = fun s => W.bind2 (ca s) fun a s1 => W.bind (f a) fun y => W.ret (y, s1)) : Em K p rs (tCB r (tCons ta tNil)) σ Ho c := by
  subst hc
  intro H1 Ho1 ws xs e z d Φ Q hw k
  refine ha H1 Ho1 ws xs e z d _ _ hw fun x xs2 v ws2 H2 Ho2 e2 z2 d2 r2 hw => ?_
  exact hop _ x v H2 Ho2 z2 r2 _ Q hw fun t w H' Ho' e' z' r' hw => k t xs2 w ws2 H' Ho' (e2.trans e') z' (DL.mo d2 e') r' hw

/-! ### operators by values -/
theorem vop_I0 {δ : Type} [Py δ] {g : Int → Int → V} {h : Int → Int → δ} (hd : ∀ i j H, D K H (g i j) (h i j)) : VOp (rI0 g) (PD K) (PD K) (PD K) (fun a b => W.ret (h a b)) := by
  intro rs x v y u H Ho z d1 d2 Φ Q hw k
  rw [d_int d1, d_int d2]
  exact ⟨x, y, rfl, rfl, k _ _ H Ho (Same.refl _) z (hd _ _ _) hw⟩
theorem vop_I {C : Int → Int → Prop} {g : Int → Int → V} {h : Int → Int → Int} (hd : ∀ i j, g i j = .int (h i j)) : VOp (rI C g) (PD K) (PD K) (PD K) (fun a b => W.guard (C a b) (W.ret (h a b))) := by
  intro rs x v y u H Ho z d1 d2 Φ Q hw k
  rw [d_int d1, d_int d2]
  exact ⟨x, y, rfl, rfl, hw.1, by rw [hd]; exact k _ _ H Ho (Same.refl _) z (.int _) hw.2⟩
theorem v_add : VOp (rI0 fun i j => .int (i + j)) (PD K) (PD K) (PD K) (fun a b : Int => W.ret (a + b)) := vop_I0 fun _ _ _ => .int _
theorem v_sub : VOp (rI0 fun i j => .int (i - j)) (PD K) (PD K) (PD K) (fun a b : Int => W.ret (a - b)) := vop_I0 fun _ _ _ => .int _
theorem v_mul : VOp (rI CMulW fun i j => .int (i * j)) (PD K) (PD K) (PD K) (fun a b : Int => W.guard (CMulW a b) (W.ret (a * b))) := vop_I (h := fun a b => a * b) fun _ _ => rfl
theorem v_fdiv : VOp (rI CDivW fun i j => .int (i / j)) (PD K) (PD K) (PD K) (fun a b : Int => W.guard (CDivW a b) (W.ret (a / b))) := vop_I (h := fun a b => a / b) fun _ _ => rfl
theorem v_mod : VOp (rI (fun _ j => 0 < j) fun i j => .int (i % j)) (PD K) (PD K) (PD K) (fun a b : Int => W.guard (0 < b) (W.ret (a % b))) := vop_I (C := fun _ b => 0 < b) (h := fun a b => a % b) fun _ _ => rfl
theorem v_pow : VOp (rI CPow fun i j => .int (i ^ j.toNat)) (PD K) (PD K) (PD K) (fun a b : Int => W.guard (CPow a b) (W.ret (a ^ b.toNat))) := vop_I (h := fun a b => a ^ b.toNat) fun _ _ => rfl
theorem v_lt : VOp (rI0 fun i j => .bl (decide (i < j))) (PD K) (PD K) (PD K) (fun a b : Int => W.ret (decide (a < b))) := vop_I0 fun _ _ _ => .bl _
theorem v_le : VOp (rI0 fun i j => .bl (decide (i ≤ j))) (PD K) (PD K) (PD K) (fun a b : Int => W.ret (decide (a ≤ b))) := vop_I0 fun _ _ _ => .bl _
theorem v_gt : VOp (rI0 fun i j => .bl (decide (j < i))) (PD K) (PD K) (PD K) (fun a b : Int => W.ret (decide (b < a))) := vop_I0 (h := fun a b => decide (b < a)) fun _ _ _ => .bl _
theorem v_ge : VOp (rI0 fun i j => .bl (decide (j ≤ i))) (PD K) (PD K) (PD K) (fun a b : Int => W.ret (decide (b ≤ a))) := vop_I0 (h := fun a b => decide (b ≤ a)) fun _ _ _ => .bl _
/-- scalars of one kind -/
class Scl (β : Type) [Py β] where
  toV : β → V
  ofD : ∀ {K H v} {x : β}, D K H v x → v = toV x
  sc : ∀ x y : β, scal (toV x) (toV y) = true
  inj : ∀ x y : β, toV x = toV y → x = y
instance : Scl Int := ⟨.int, d_int, fun _ _ => rfl, fun _ _ h => V.int.inj h⟩
instance : Scl Bool := ⟨.bl, d_bool, fun _ _ => rfl, fun _ _ h => V.bl.inj h⟩
instance : Scl Str := ⟨.str, d_str, fun _ _ => rfl, fun _ _ h => V.str.inj h⟩
theorem scl_dec {β : Type} [Py β] [Scl β] [DecidableEq β] (x y : β) : decide (Scl.toV x = Scl.toV y) = decide (x = y) := by
  by_cases h : x = y
  · subst h; simp
  · rw [decide_eq_false h, decide_eq_false fun e => h (Scl.inj _ _ e)]
theorem v_eq {β : Type} [Py β] [Scl β] [DecidableEq β] : VOp rEq (PD (β := β) K) (PD K) (PD K) (fun a b => W.ret (decide (a = b))) := by
  intro rs x v y u H Ho z d1 d2 Φ Q hw k
  rw [Scl.ofD d1, Scl.ofD d2]
  exact ⟨Scl.sc x y, by rw [scl_dec]; exact k _ _ H Ho (Same.refl _) z (.bl _) hw⟩
theorem v_ne {β : Type} [Py β] [Scl β] [DecidableEq β] : VOp rNe (PD (β := β) K) (PD K) (PD K) (fun a b => W.ret (!decide (a = b))) := by
  intro rs x v y u H Ho z d1 d2 Φ Q hw k
  rw [Scl.ofD d1, Scl.ofD d2]
  exact ⟨Scl.sc x y, by rw [scl_dec]; exact k _ _ H Ho (Same.refl _) z (.bl _) hw⟩
/-- == and != of data -/
def eqD {β γ : Type} [Py β] [Py γ] (x : β) (y : γ) : Bool := PyData.eqv (toPy x) (toPy y)
def okD {β : Type} [Py β] (x : β) : Prop := SeqAt.shaped (toPy x) = true
theorem v_eqD {β γ : Type} [Py β] [Py γ] : VOp (rEqD K) (PQ (β := β) K) (PQ (β := γ) K) (PD K) (fun a b => W.guard (okD a ∧ okD b) (W.ret (eqD a b))) := by
  intro rs x v y u H Ho z d1 d2 Φ Q hw k
  exact ⟨_, _, d1 H Ho (Same.refl _) z, d2 H Ho (Same.refl _) z, hw.1.1, hw.1.2, k _ _ H Ho (Same.refl _) z (.bl _) hw.2⟩
theorem v_neD {β γ : Type} [Py β] [Py γ] : VOp (rNeD K) (PQ (β := β) K) (PQ (β := γ) K) (PD K) (fun a b => W.guard (okD a ∧ okD b) (W.ret (!eqD a b))) := by
  intro rs x v y u H Ho z d1 d2 Φ Q hw k
  exact ⟨_, _, d1 H Ho (Same.refl _) z, d2 H Ho (Same.refl _) z, hw.1.1, hw.1.2, k _ _ H Ho (Same.refl _) z (.bl _) hw.2⟩
theorem v_isN {β : Type} [Py β] : VOp (fun x y H Q => y = .non ∧ Q (.bl (decide (x = .non))) H) (PD (β := Option β) K) (PD (β := Unit) K) (PD K) (fun a _ => W.bind (W.guard (∀ b : β, a = some b → toPy b ≠ .none) (W.ret ())) fun _ => W.ret a.isNone) := by
  intro rs x v y u H Ho z d1 d2 Φ Q hw k
  cases d2
  refine ⟨rfl, ?_⟩
  have e : decide (v = .non) = x.isNone := by
    cases x with
    | none => cases d1; rfl
    | some b =>
      have nb := hw.1 b rfl
      rw [decide_eq_false]
      · rfl
      · intro ev
        subst ev
        have d3 : Dp K Ho V.non (toPy b) := d1
        generalize toPy b = pb at d3 nb
        cases d3
        exact nb rfl
  rw [e]
  exact k _ _ H Ho (Same.refl _) z (.bl _) hw.2
theorem v_ixL {α : Type} [Py α] : VOp (rIxL K) (PL (α := α) K) (PD K) (PD K) (fun xs i => W.opt (atI xs i)) := by
  intro rs x v y u H Ho z d1 d2 Φ Q hw k
  obtain ⟨p, vs, rfl, d, s⟩ := LV.rd d1 z
  obtain ⟨a, ea, hw⟩ := hw
  obtain ⟨w, ew, dw⟩ := DL.at d ea
  rw [d_int d2]
  exact ⟨p, vs, y, w, rfl, rfl, s, ew, k a w H Ho (Same.refl _) z dw hw⟩
theorem v_catS {α : Type} [Py α] : VOpF K (rCatS K) (PL (α := α) K) (PL K) (fun xs ys => W.guard (xs.length + ys.length ≤ sizeLine) (W.ret (xs ++ ys))) := by
  intro rs x v y u H Ho z d1 d2 Φ Q hw k
  obtain ⟨p, vs, rfl, d, s⟩ := LV.rd d1 z
  obtain ⟨p', vs', rfl, d', s'⟩ := LV.rd d2 z
  exact ⟨p, p', vs, vs', rfl, rfl, s, s', by rw [d.len, d'.len]; exact hw.1, fun q hq => k _ _ _ _ Ho (Same.refl _) (z.root hq) (d.append d') hw.2⟩
/-- t[j], t a tuple, j written -/
theorem ev_ixT {β γ : Type} [Py β] [Py γ] {cx : W β} (j : Nat) {f : β → γ} {c : W γ} (ha : Ev rs ta σ Ho (PD K) cx) (hj : ∀ x : β, ∃ ds, toPy x = .tuple ds ∧ ds[j]? = some (toPy (f x))) (hc : c = W.bind cx fun x => W.ret (f x)) : Ev rs (tOp (rIxT K) ta (tC (.int (j : Nat)))) σ Ho (PD K) c := by
  subst hc
  intro H1 Ho1 e z Φ Q hw k
  refine ha H1 Ho1 e z _ _ hw fun x v H2 Ho2 e2 z2 r2 hw => ?_
  obtain ⟨ds, e1, e3⟩ := hj x
  have d : Dp K Ho2 v (toPy x) := r2
  rw [e1] at d
  cases d with
  | tup hs ha =>
    obtain ⟨w, ew, dw⟩ := dpAll_get ha e3
    exact ⟨_, _, _, w, rfl, rfl, Same.sqT z2.le hs, atI_nat ew, k (f x) w H2 Ho2 e2 z2 dw hw⟩
theorem ev_neg {ca c : W Int} (ha : Ev rs ta σ Ho (PD K) ca) (hc : c = W.bind ca fun a => W.ret (-a)) : Ev rs (tUn (rU fun i => .int (-i)) ta) σ Ho (PD K) c := by
  subst hc
  intro H1 Ho1 e z Φ Q hw k
  refine ha H1 Ho1 e z _ _ hw fun x v H2 Ho2 e2 z2 r2 hw => ?_
  rw [d_int r2]
  exact ⟨x, rfl, k _ _ H2 Ho2 e2 z2 (.int _) hw⟩
theorem em_neg {α : Type} [Py α] {ca c : List α → W (Int × List α)} (ha : Em K p rs ta σ Ho ca) (hc : c = fun s => W.bind2 (ca s) fun a s1 => W.ret (-a, s1)) : Em K p rs (tUn (rU fun i => .int (-i)) ta) σ Ho c := by
  subst hc
  intro H1 Ho1 ws xs e z d Φ Q hw k
  refine ha H1 Ho1 ws xs e z d _ _ hw fun x xs2 v ws2 H2 Ho2 e2 z2 d2 r2 hw => ?_
  rw [d_int r2]
  exact ⟨x, rfl, k _ _ _ _ H2 Ho2 e2 z2 d2 (.int _) hw⟩
/-- a chain of two comparisons of ints -/
theorem ev_chain {g h : Int → Int → Bool} {r r' : R2} {ca cb cd : W Int} {c : W Bool} (h1 : VOp r (PD K) (PD K) (PD K) (fun a b => W.ret (g a b))) (h2 : VOp r' (PD K) (PD K) (PD K) (fun a b => W.ret (h a b)))
    (ha : Ev rs ta σ Ho (PD K) ca) (hb : Ev rs tb σ Ho (PD K) cb) (hd : Ev rs tc σ Ho (PD K) cd) (hc : c = W.bind ca fun a => W.bind cb fun b => W.ite (g a b) (W.bind cd fun d => W.ret (h b d)) (W.ret false)) : Ev rs (tChain r r' ta tb tc) σ Ho (PD K) c := by
  subst hc
  intro H1 Ho1 e z Φ Q hw k
  refine ha H1 Ho1 e z _ _ hw fun x v H2 Ho2 e2 z2 r2 hw => ?_
  refine hb H2 Ho2 (e.trans e2) z2 _ _ hw fun y u H3 Ho3 e3 z3 r3 hw => ?_
  refine h1 rs x v y u H3 Ho3 z3 (D.mo r2 e3) r3 (fun t => (W.ite t (W.bind cd fun d => W.ret (h y d)) (W.ret false)).run Φ) _ hw fun t w H4 Ho4 e4 z4 r4 hw => ?_
  rw [d_bool r4]
  refine ⟨t, rfl, ?_⟩
  cases t with
  | true =>
    refine iteT (hd H4 Ho4 (((e.trans e2).trans e3).trans e4) z4 _ _ (hw.1 rfl) fun y' u' H5 Ho5 e5 z5 r5 hw => ?_)
    exact h2 rs y u y' u' H5 Ho5 z5 (D.mo (D.mo r3 e4) e5) r5 _ _ hw fun t w H' Ho' e' => k t w H' Ho' (e2.trans (e3.trans (e4.trans (e5.trans e'))))
  | false => exact iteF (k false _ H4 Ho4 (e2.trans (e3.trans e4)) z4 (.bl _) (hw.2 rfl))

/-! ### and, or, not, if -/
variable {ct cu : W Bool}
theorem ev_andV (ha : Ev rs ta σ Ho (PD K) ct) (hb : Ev rs tb σ Ho (PD K) cu) {c : W Bool} (hc : c = W.bind ct fun a => W.ite a cu (W.ret false)) : Ev rs (tAndV ta tb) σ Ho (PD K) c := by
  subst hc
  intro H1 Ho1 e z Φ Q hw k
  refine ha H1 Ho1 e z _ _ hw fun x v H2 Ho2 e2 z2 r2 hw => ?_
  rw [d_bool r2]
  refine ⟨x, rfl, ?_⟩
  cases x with
  | true => exact iteT (hb H2 Ho2 (e.trans e2) z2 _ _ (hw.1 rfl) fun y u H3 Ho3 e3 => k y u H3 Ho3 (e2.trans e3))
  | false => exact iteF (k false _ H2 Ho2 e2 z2 (.bl _) (hw.2 rfl))
theorem ev_orV (ha : Ev rs ta σ Ho (PD K) ct) (hb : Ev rs tb σ Ho (PD K) cu) {c : W Bool} (hc : c = W.bind ct fun a => W.ite a (W.ret true) cu) : Ev rs (tOrV ta tb) σ Ho (PD K) c := by
  subst hc
  intro H1 Ho1 e z Φ Q hw k
  refine ha H1 Ho1 e z _ _ hw fun x v H2 Ho2 e2 z2 r2 hw => ?_
  rw [d_bool r2]
  refine ⟨x, rfl, ?_⟩
  cases x with
  | false => exact iteF (hb H2 Ho2 (e.trans e2) z2 _ _ (hw.2 rfl) fun y u H3 Ho3 e3 => k y u H3 Ho3 (e2.trans e3))
  | true => exact iteT (k true _ H2 Ho2 e2 z2 (.bl _) (hw.1 rfl))
theorem ev_notV (ha : Ev rs ta σ Ho (PD K) ct) {c : W Bool} (hc : c = W.bind ct fun a => W.ret (!a)) : Ev rs (tNotV ta) σ Ho (PD K) c := by
  subst hc
  intro H1 Ho1 e z Φ Q hw k
  refine ha H1 Ho1 e z _ _ hw fun x v H2 Ho2 e2 z2 r2 hw => ?_
  rw [d_bool r2]
  exact ⟨x, rfl, k _ _ H2 Ho2 e2 z2 (.bl _) hw⟩
theorem ev_if {β : Type} {P : Pm β} {cx cy c : W β} (ht : Et rs tt σ Ho ct) (ha : Ev rs ta σ Ho P cx) (hb : Ev rs tb σ Ho P cy) (hc : c = W.bind ct fun b => W.ite b cx cy) : Ev rs (tIf tt ta tb) σ Ho P c := by
  subst hc
  intro H1 Ho1 e z Φ Q hw k
  refine ht H1 Ho1 e z _ _ hw fun x H2 Ho2 e2 z2 hw => ?_
  cases x with
  | true => exact iteT (ha H2 Ho2 (e.trans e2) z2 _ _ (hw.1 rfl) fun y u H3 Ho3 e3 => k y u H3 Ho3 (e2.trans e3))
  | false => exact iteF (hb H2 Ho2 (e.trans e2) z2 _ _ (hw.2 rfl) fun y u H3 Ho3 e3 => k y u H3 Ho3 (e2.trans e3))
theorem em_if {β α : Type} [Py β] [Py α] {cq : List α → W (Bool × List α)} {cx cy c : List α → W (β × List α)} (ht : Emt K p rs tt σ Ho cq) (ha : Em K p rs ta σ Ho cx) (hb : Em K p rs tb σ Ho cy) (hc : c = fun s => W.bind2 (cq s) fun b s1 => W.ite b (cx s1) (cy s1)) : Em K p rs (tIf tt ta tb) σ Ho c := by
  subst hc
  intro H1 Ho1 ws xs e z d Φ Q hw k
  refine ht H1 Ho1 ws xs e z d _ _ hw fun x xs2 ws2 H2 Ho2 e2 z2 d2 hw => ?_
  cases x with
  | true => exact iteT (ha H2 Ho2 ws2 xs2 (e.trans e2) z2 d2 _ _ (hw.1 rfl) fun y xs3 u ws3 H3 Ho3 e3 => k y xs3 u ws3 H3 Ho3 (e2.trans e3))
  | false => exact iteF (hb H2 Ho2 ws2 xs2 (e.trans e2) z2 d2 _ _ (hw.2 rfl) fun y xs3 u ws3 H3 Ho3 e3 => k y xs3 u ws3 H3 Ho3 (e2.trans e3))
theorem et_of (ha : Ev rs te σ Ho (PD K) ct) : Et rs (tTest te) σ Ho ct := by
  intro H1 Ho1 e z Φ Q hw k
  refine ha H1 Ho1 e z _ _ hw fun x v H2 Ho2 e2 z2 r2 hw => ?_
  rw [d_bool r2]
  exact ⟨x, rfl, k _ H2 Ho2 e2 z2 hw⟩
theorem et_B (ha : Ev rs te σ Ho (PD K) ct) : Et rs (tB te) σ Ho ct := et_of ha
theorem emt_t {α : Type} [Py α] {c : List α → W (Bool × List α)} (ha : Em K p rs te σ Ho c) : Emt K p rs (tTest te) σ Ho c := by
  intro H1 Ho1 ws xs e z d Φ Q hw k
  refine ha H1 Ho1 ws xs e z d _ _ hw fun x xs2 v ws2 H2 Ho2 e2 z2 d2 r2 hw => ?_
  rw [d_bool r2]
  exact ⟨x, rfl, k _ _ _ H2 Ho2 e2 z2 d2 hw⟩
theorem et_and (ha : Et rs tt σ Ho ct) (hb : Et rs tu σ Ho cu) {c : W Bool} (hc : c = W.bind ct fun a => W.ite a cu (W.ret false)) : Et rs (tAnd tt tu) σ Ho c := by
  subst hc
  intro H1 Ho1 e z Φ Q hw k
  refine ha H1 Ho1 e z _ _ hw fun x H2 Ho2 e2 z2 hw => ?_
  cases x with
  | true => exact iteT (hb H2 Ho2 (e.trans e2) z2 _ _ (hw.1 rfl) fun y H3 Ho3 e3 => k y H3 Ho3 (e2.trans e3))
  | false => exact iteF (k false H2 Ho2 e2 z2 (hw.2 rfl))
theorem et_or (ha : Et rs tt σ Ho ct) (hb : Et rs tu σ Ho cu) {c : W Bool} (hc : c = W.bind ct fun a => W.ite a (W.ret true) cu) : Et rs (tOr tt tu) σ Ho c := by
  subst hc
  intro H1 Ho1 e z Φ Q hw k
  refine ha H1 Ho1 e z _ _ hw fun x H2 Ho2 e2 z2 hw => ?_
  cases x with
  | false => exact iteF (hb H2 Ho2 (e.trans e2) z2 _ _ (hw.2 rfl) fun y H3 Ho3 e3 => k y H3 Ho3 (e2.trans e3))
  | true => exact iteT (k true H2 Ho2 e2 z2 (hw.1 rfl))
theorem et_not (ha : Et rs tt σ Ho ct) {c : W Bool} (hc : c = W.bind ct fun a => W.ret (!a)) : Et rs (tNot tt) σ Ho c := by
  subst hc
  intro H1 Ho1 e z Φ Q hw k
  exact ha H1 Ho1 e z _ _ hw fun x H2 Ho2 e2 z2 hw => k _ H2 Ho2 e2 z2 hw
theorem et_yes {c : W Bool} (hc : c = W.ret true) : Et rs tYes σ Ho c := by
  subst hc
  intro H1 Ho1 e z Φ Q hw k
  exact k true H1 Ho1 (Same.refl _) z hw
theorem emt_and {α : Type} [Py α] {cq cr c : List α → W (Bool × List α)} (ha : Emt K p rs tt σ Ho cq) (hb : Emt K p rs tu σ Ho cr) (hc : c = fun s => W.bind2 (cq s) fun a s1 => W.ite a (cr s1) (W.ret (false, s1))) : Emt K p rs (tAnd tt tu) σ Ho c := by
  subst hc
  intro H1 Ho1 ws xs e z d Φ Q hw k
  refine ha H1 Ho1 ws xs e z d _ _ hw fun x xs2 ws2 H2 Ho2 e2 z2 d2 hw => ?_
  cases x with
  | true => exact iteT (hb H2 Ho2 ws2 xs2 (e.trans e2) z2 d2 _ _ (hw.1 rfl) fun y xs3 ws3 H3 Ho3 e3 => k y xs3 ws3 H3 Ho3 (e2.trans e3))
  | false => exact iteF (k false _ _ H2 Ho2 e2 z2 d2 (hw.2 rfl))
theorem emt_or {α : Type} [Py α] {cq cr c : List α → W (Bool × List α)} (ha : Emt K p rs tt σ Ho cq) (hb : Emt K p rs tu σ Ho cr) (hc : c = fun s => W.bind2 (cq s) fun a s1 => W.ite a (W.ret (true, s1)) (cr s1)) : Emt K p rs (tOr tt tu) σ Ho c := by
  subst hc
  intro H1 Ho1 ws xs e z d Φ Q hw k
  refine ha H1 Ho1 ws xs e z d _ _ hw fun x xs2 ws2 H2 Ho2 e2 z2 d2 hw => ?_
  cases x with
  | false => exact iteF (hb H2 Ho2 ws2 xs2 (e.trans e2) z2 d2 _ _ (hw.2 rfl) fun y xs3 ws3 H3 Ho3 e3 => k y xs3 ws3 H3 Ho3 (e2.trans e3))
  | true => exact iteT (k true _ _ H2 Ho2 e2 z2 d2 (hw.1 rfl))
end

/-! ### displays -/
section
variable {K : PySem.W.Frag} {rs : List (Addr × HO)} {σ : L2.St} {Ho : Hp} {ta tb tc td te : TE} {tt tu : TT} {ts : TA} {α : Type} [Py α] {p : Addr}
def En (n : Nat) (K : PySem.W.Frag) (rs : List (Addr × HO)) (ta : TA) (σ : L2.St) (Ho : Hp) (c : W (List α)) : Prop :=
  ∀ H1 Ho1, Same Ho Ho1 → Zs rs H1 Ho1 → ∀ (Φ : List α → Prop) (Q : List V → Hp → Prop), c.run Φ → (∀ xs vs H2 Ho2, Same Ho1 Ho2 → Zs rs H2 Ho2 → DL K Ho2 vs xs → vs.length = n → Φ xs → Q vs H2) → ta σ H1 Q
theorem en_nil {c : W (List α)} (hc : c = W.ret []) : En 0 K rs tNil σ Ho c := by
  subst hc
  intro H1 Ho1 e z Φ Q hw k
  exact k [] [] H1 Ho1 (Same.refl _) z .nil rfl hw
theorem en_cons {n : Nat} {cx : W α} {cs c : W (List α)} (ha : Ev rs te σ Ho (PD K) cx) (hb : En n K rs ts σ Ho cs) (hc : c = W.bind cx fun x => W.bind cs fun xs => W.ret (x :: xs)) : En (n + 1) K rs (tCons te ts) σ Ho c := by
  subst hc
  intro H1 Ho1 e z Φ Q hw k
  refine ha H1 Ho1 e z _ _ hw fun x v H2 Ho2 e2 z2 r2 hw => ?_
  refine hb H2 Ho2 (e.trans e2) z2 _ _ hw fun xs vs H3 Ho3 e3 z3 d3 l3 hw => ?_
  exact k (x :: xs) (v :: vs) H3 Ho3 (e2.trans e3) z3 (.cons (D.mo r2 e3) d3) (by simp [l3]) hw
theorem ef_lst {n : Nat} {c : W (List α)} (ha : En n K rs ts σ Ho c) (hn : n ≤ sizeLine := by decide) : Ef K rs (tLst ts) σ Ho c := by
  intro H1 Ho1 e z Φ Q hw k
  refine ha H1 Ho1 e z _ _ hw fun xs vs H2 Ho2 e2 z2 d2 l2 hw => ⟨by omega, fun p hp => ?_⟩
  exact k xs _ _ _ Ho2 e2 (z2.root hp) d2 hw
def Emn {γ : Type} [Py γ] (n : Nat) (K : PySem.W.Frag) (p : Addr) (rs : List (Addr × HO)) (ta : TA) (σ : L2.St) (Ho : Hp) (c : List γ → W (List α × List γ)) : Prop :=
  ∀ H1 Ho1 ws xs, Same Ho Ho1 → Zs ((p, .lst ws) :: rs) H1 Ho1 → DL K Ho1 ws xs → ∀ (Φ : List α × List γ → Prop) (Q : List V → Hp → Prop), (c xs).run Φ →
    (∀ ys xs' vs ws' H2 Ho2, Same Ho1 Ho2 → Zs ((p, .lst ws') :: rs) H2 Ho2 → DL K Ho2 ws' xs' → DL K Ho2 vs ys → vs.length = n → Φ (ys, xs') → Q vs H2) → ta σ H1 Q
section
variable {γ : Type} [Py γ]
theorem emn_nil {c : List γ → W (List α × List γ)} (hc : c = fun s => W.ret ([], s)) : Emn 0 K p rs tNil σ Ho c := by
  subst hc
  intro H1 Ho1 ws xs e z d Φ Q hw k
  exact k [] xs [] ws H1 Ho1 (Same.refl _) z d .nil rfl hw
theorem emn_cons {n : Nat} {cx : List γ → W (α × List γ)} {cs c : List γ → W (List α × List γ)} (ha : Em K p rs te σ Ho cx) (hb : Emn n K p rs ts σ Ho cs) (hc : c = fun s => W.bind2 (cx s) fun x s1 => W.bind2 (cs s1) fun xs s2 => W.ret (x :: xs, s2)) : Emn (n + 1) K p rs (tCons te ts) σ Ho c := by
  subst hc
  intro H1 Ho1 ws xs e z d Φ Q hw k
  refine ha H1 Ho1 ws xs e z d _ _ hw fun x s1 v ws2 H2 Ho2 e2 z2 d2 r2 hw => ?_
  refine hb H2 Ho2 ws2 s1 (e.trans e2) z2 d2 _ _ hw fun ys s2 vs ws3 H3 Ho3 e3 z3 d3 dv l3 hw => ?_
  exact k (x :: ys) s2 (v :: vs) ws3 H3 Ho3 (e2.trans e3) z3 d3 (.cons (D.mo r2 e3) dv) (by simp [l3]) hw
theorem emf_lst {n : Nat} {c : List γ → W (List α × List γ)} (ha : Emn n K p rs ts σ Ho c) (hn : n ≤ sizeLine := by decide) : Emf K p rs (tLst ts) σ Ho c := by
  intro H1 Ho1 ws xs e z d Φ Q hw k
  refine ha H1 Ho1 ws xs e z d _ _ hw fun ys s2 vs ws3 H3 Ho3 e3 z3 d3 dv l3 hw => ⟨by omega, fun q hq => ?_⟩
  exact k ys s2 q vs ws3 _ Ho3 e3 (z3.root hq) d3 dv hw
end
theorem tup_k {vs : List V} {ds : List PyData} {H : Hp} {Q : VK} (z : Zs rs H Ho) (d : DpAll K Ho vs ds) (hl : vs.length ≤ sizeLine) (k : ∀ p H' Ho', Same Ho Ho' → (∀ rs', Zs rs' H Ho → Zs rs' H' Ho') → Dp K Ho' (.ref p) (.tuple ds) → Q (.ref p) H') :
    vs.length ≤ sizeLine ∧ ∀ p, H p = none → Q (.ref p) (upd H p (.tup vs)) :=
  ⟨hl, fun p hp => by
    have e3 : Same Ho (upd Ho p (.tup vs)) := Same.new (z.free hp)
    exact k p _ _ e3 (fun _ z => z.alloc hp) (.tup (SqT.of upd_same) (dpAll_mono e3 _ _ d))⟩
theorem ev_t2 {β γ : Type} [Py β] [Py γ] {ca : W β} {cb : W γ} {c : W (β × γ)} (ha : Ev rs ta σ Ho (PD K) ca) (hb : Ev rs tb σ Ho (PD K) cb) (hc : c = W.bind ca fun a => W.bind cb fun b => W.ret (a, b)) :
    Ev rs (tTup (tCons ta (tCons tb tNil))) σ Ho (PD K) c := by
  subst hc
  intro H1 Ho1 e z Φ Q hw k
  refine ha H1 Ho1 e z _ _ hw fun x v H2 Ho2 e2 z2 r2 hw => ?_
  refine hb H2 Ho2 (e.trans e2) z2 _ _ hw fun y u H3 Ho3 e3 z3 r3 hw => ?_
  exact tup_k z3 (.cons (D.mo r2 e3) (.cons r3 .nil)) (by show 2 ≤ sizeLine; decide) fun p H' Ho' e4 z4 d4 => k (x, y) _ H' Ho' (e2.trans (e3.trans e4)) (z4 _ z3) d4 hw
theorem ev_t3 {β γ δ : Type} [Py β] [Py γ] [Py δ] {ca : W β} {cb : W γ} {cd : W δ} {c : W (P3 β γ δ)} (ha : Ev rs ta σ Ho (PD K) ca) (hb : Ev rs tb σ Ho (PD K) cb) (hd : Ev rs tc σ Ho (PD K) cd)
    (hc : c = W.bind ca fun a => W.bind cb fun b => W.bind cd fun d => W.ret ⟨a, b, d⟩) : Ev rs (tTup (tCons ta (tCons tb (tCons tc tNil)))) σ Ho (PD K) c := by
  subst hc
  intro H1 Ho1 e z Φ Q hw k
  refine ha H1 Ho1 e z _ _ hw fun x v H2 Ho2 e2 z2 r2 hw => ?_
  refine hb H2 Ho2 (e.trans e2) z2 _ _ hw fun y u H3 Ho3 e3 z3 r3 hw => ?_
  refine hd H3 Ho3 ((e.trans e2).trans e3) z3 _ _ hw fun t r H4 Ho4 e4 z4 r4 hw => ?_
  exact tup_k z4 (.cons (D.mo (D.mo r2 e3) e4) (.cons (D.mo r3 e4) (.cons r4 .nil))) (by show 3 ≤ sizeLine; decide) fun p H' Ho' e5 z5 d5 => k ⟨x, y, t⟩ _ H' Ho' (e2.trans (e3.trans (e4.trans e5))) (z5 _ z4) d5 hw
theorem ev_t4 {β γ δ ε : Type} [Py β] [Py γ] [Py δ] [Py ε] {ca : W β} {cb : W γ} {cd : W δ} {ce : W ε} {c : W (P4 β γ δ ε)} (ha : Ev rs ta σ Ho (PD K) ca) (hb : Ev rs tb σ Ho (PD K) cb) (hd : Ev rs tc σ Ho (PD K) cd) (he : Ev rs td σ Ho (PD K) ce)
    (hc : c = W.bind ca fun a => W.bind cb fun b => W.bind cd fun d => W.bind ce fun e => W.ret ⟨a, b, d, e⟩) : Ev rs (tTup (tCons ta (tCons tb (tCons tc (tCons td tNil))))) σ Ho (PD K) c := by
  subst hc
  intro H1 Ho1 e z Φ Q hw k
  refine ha H1 Ho1 e z _ _ hw fun x v H2 Ho2 e2 z2 r2 hw => ?_
  refine hb H2 Ho2 (e.trans e2) z2 _ _ hw fun y u H3 Ho3 e3 z3 r3 hw => ?_
  refine hd H3 Ho3 ((e.trans e2).trans e3) z3 _ _ hw fun t r H4 Ho4 e4 z4 r4 hw => ?_
  refine he H4 Ho4 (((e.trans e2).trans e3).trans e4) z4 _ _ hw fun t' r' H5 Ho5 e5 z5 r5 hw => ?_
  exact tup_k z5 (.cons (D.mo (D.mo (D.mo r2 e3) e4) e5) (.cons (D.mo (D.mo r3 e4) e5) (.cons (D.mo r4 e5) (.cons r5 .nil)))) (by show 4 ≤ sizeLine; decide) fun p H' Ho' e6 z6 d6 => k ⟨x, y, t, t'⟩ _ H' Ho' (e2.trans (e3.trans (e4.trans (e5.trans e6)))) (z6 _ z5) d6 hw
section
variable {θ : Type} [Py θ]
theorem em_t2 {β γ : Type} [Py β] [Py γ] {ca : List θ → W (β × List θ)} {cb : List θ → W (γ × List θ)} {c : List θ → W ((β × γ) × List θ)} (ha : Em K p rs ta σ Ho ca) (hb : Em K p rs tb σ Ho cb) (hc : c = fun s => W.bind2 (ca s) fun a s1 => W.bind2 (cb s1) fun b s2 => W.ret ((a, b), s2)) :
    Em K p rs (tTup (tCons ta (tCons tb tNil))) σ Ho c := by
  subst hc
  intro H1 Ho1 ws xs e z d Φ Q hw k
  refine ha H1 Ho1 ws xs e z d _ _ hw fun x s1 v w1 H2 Ho2 e2 z2 d2 r2 hw => ?_
  refine hb H2 Ho2 w1 s1 (e.trans e2) z2 d2 _ _ hw fun y s2 u w2 H3 Ho3 e3 z3 d3 r3 hw => ?_
  exact tup_k z3 (.cons (D.mo r2 e3) (.cons r3 .nil)) (by show 2 ≤ sizeLine; decide) fun q H' Ho' e4 z4 d4 => k (x, y) s2 _ w2 H' Ho' (e2.trans (e3.trans e4)) (z4 _ z3) (DL.mo d3 e4) d4 hw
theorem em_t3 {β γ δ : Type} [Py β] [Py γ] [Py δ] {ca : List θ → W (β × List θ)} {cb : List θ → W (γ × List θ)} {cd : List θ → W (δ × List θ)} {c : List θ → W (P3 β γ δ × List θ)} (ha : Em K p rs ta σ Ho ca) (hb : Em K p rs tb σ Ho cb) (hd : Em K p rs tc σ Ho cd)
    (hc : c = fun s => W.bind2 (ca s) fun a s1 => W.bind2 (cb s1) fun b s2 => W.bind2 (cd s2) fun d s3 => W.ret (⟨a, b, d⟩, s3)) : Em K p rs (tTup (tCons ta (tCons tb (tCons tc tNil)))) σ Ho c := by
  subst hc
  intro H1 Ho1 ws xs e z d Φ Q hw k
  refine ha H1 Ho1 ws xs e z d _ _ hw fun x s1 v w1 H2 Ho2 e2 z2 d2 r2 hw => ?_
  refine hb H2 Ho2 w1 s1 (e.trans e2) z2 d2 _ _ hw fun y s2 u w2 H3 Ho3 e3 z3 d3 r3 hw => ?_
  refine hd H3 Ho3 w2 s2 ((e.trans e2).trans e3) z3 d3 _ _ hw fun t s3 r w3 H4 Ho4 e4 z4 d4 r4 hw => ?_
  exact tup_k z4 (.cons (D.mo (D.mo r2 e3) e4) (.cons (D.mo r3 e4) (.cons r4 .nil))) (by show 3 ≤ sizeLine; decide) fun q H' Ho' e5 z5 d5 => k ⟨x, y, t⟩ s3 _ w3 H' Ho' (e2.trans (e3.trans (e4.trans e5))) (z5 _ z4) (DL.mo d4 e5) d5 hw
theorem em_t4 {β γ δ ε : Type} [Py β] [Py γ] [Py δ] [Py ε] {ca : List θ → W (β × List θ)} {cb : List θ → W (γ × List θ)} {cd : List θ → W (δ × List θ)} {ce : List θ → W (ε × List θ)} {c : List θ → W (P4 β γ δ ε × List θ)} (ha : Em K p rs ta σ Ho ca) (hb : Em K p rs tb σ Ho cb) (hd : Em K p rs tc σ Ho cd) (he : Em K p rs td σ Ho ce)
    (hc : c = fun s => W.bind2 (ca s) fun a s1 => W.bind2 (cb s1) fun b s2 => W.bind2 (cd s2) fun d s3 => W.bind2 (ce s3) fun e s4 => W.ret (⟨a, b, d, e⟩, s4)) : Em K p rs (tTup (tCons ta (tCons tb (tCons tc (tCons td tNil))))) σ Ho c := by
  subst hc
  intro H1 Ho1 ws xs e z d Φ Q hw k
  refine ha H1 Ho1 ws xs e z d _ _ hw fun x s1 v w1 H2 Ho2 e2 z2 d2 r2 hw => ?_
  refine hb H2 Ho2 w1 s1 (e.trans e2) z2 d2 _ _ hw fun y s2 u w2 H3 Ho3 e3 z3 d3 r3 hw => ?_
  refine hd H3 Ho3 w2 s2 ((e.trans e2).trans e3) z3 d3 _ _ hw fun t s3 r w3 H4 Ho4 e4 z4 d4 r4 hw => ?_
  refine he H4 Ho4 w3 s3 (((e.trans e2).trans e3).trans e4) z4 d4 _ _ hw fun t' s4 r' w4 H5 Ho5 e5 z5 d5 r5 hw => ?_
  exact tup_k z5 (.cons (D.mo (D.mo (D.mo r2 e3) e4) e5) (.cons (D.mo (D.mo r3 e4) e5) (.cons (D.mo r4 e5) (.cons r5 .nil)))) (by show 4 ≤ sizeLine; decide) fun q H' Ho' e6 z6 d6 => k ⟨x, y, t, t'⟩ s4 _ w4 H' Ho' (e2.trans (e3.trans (e4.trans (e5.trans e6)))) (z6 _ z5) (DL.mo d5 e6) d6 hw
end
/-! ### slices, copies -/
def Eo (rs : List (Addr × HO)) (to : TO) (σ : L2.St) (Ho : Hp) (c : W (Option Int)) : Prop :=
  ∀ H1 Ho1, Same Ho Ho1 → Zs rs H1 Ho1 → ∀ (Φ : Option Int → Prop) (Q : Option Int → Hp → Prop), c.run Φ → (∀ x H2 Ho2, Same Ho1 Ho2 → Zs rs H2 Ho2 → Φ x → Q x H2) → to σ H1 Q
theorem eo_none {c : W (Option Int)} (hc : c = W.ret none) : Eo rs tNoPart σ Ho c := by
  subst hc
  intro H1 Ho1 e z Φ Q hw k
  exact k none H1 Ho1 (Same.refl _) z hw
theorem eo_some {ci : W Int} {c : W (Option Int)} (ha : Ev rs te σ Ho (PD K) ci) (hc : c = W.bind ci fun i => W.ret (some i)) : Eo rs (tPart te) σ Ho c := by
  subst hc
  intro H1 Ho1 e z Φ Q hw k
  refine ha H1 Ho1 e z _ _ hw fun x v H2 Ho2 e2 z2 r2 hw => ?_
  exact ⟨x, d_int r2, k (some x) H2 Ho2 e2 z2 hw⟩
theorem ef_sl {to tp : TO} {cx c : W (List α)} {cl ch : W (Option Int)} (ha : Ev rs te σ Ho (PL K) cx) (hl : Eo rs to σ Ho cl) (hh : Eo rs tp σ Ho ch) (hc : c = W.bind cx fun xs => W.bind cl fun l => W.bind ch fun h => W.ret (Z.cut xs l h)) :
    Ef K rs (tSl (rSlL K) te to tp) σ Ho c := by
  subst hc
  intro H1 Ho1 e z Φ Q hw k
  refine ha H1 Ho1 e z _ _ hw fun x v H2 Ho2 e2 z2 r2 hw => ?_
  refine hl H2 Ho2 (e.trans e2) z2 _ _ hw fun l H3 Ho3 e3 z3 hw => ?_
  refine hh H3 Ho3 ((e.trans e2).trans e3) z3 _ _ hw fun h H4 Ho4 e4 z4 hw => ?_
  obtain ⟨p, vs, rfl, d, s⟩ := (LV.mo (LV.mo r2 e3) e4).rd z4
  exact ⟨p, vs, rfl, s, fun q hq => k _ _ _ _ Ho4 (e2.trans (e3.trans e4)) (z4.root hq) (DL.cut d l h) hw⟩
/-! ### built-ins by values -/
theorem c_len {X : Cx} (hK : X.K = K) : VC1 (fun xs H Q => ∃ p ys, xs = [.ref p] ∧ (SqL X.K H p ys ∨ SqT X.K H p ys) ∧ Q (.int ys.length) H) (PL (α := α) K) (PD K) (fun xs => W.ret (xs.length : Int)) := by
  intro rs x v H Ho z d1 Φ Q hw k
  obtain ⟨p, vs, rfl, d, s⟩ := LV.rd d1 z
  refine ⟨p, vs, rfl, .inl (hK ▸ s), ?_⟩
  rw [d.len]
  exact k _ _ H Ho (Same.refl _) z (.int _) hw
theorem c_list {X : Cx} (hK : X.K = K) : VC1F K (fun xs H Q => ∃ p ys, xs = [.ref p] ∧ (SqL X.K H p ys ∨ SqT X.K H p ys) ∧ ∀ l, H l = none → Q (.ref l) (upd H l (.lst ys))) (PL (α := α) K) (fun xs => W.ret xs) := by
  intro rs x v H Ho z d1 Φ Q hw k
  obtain ⟨p, vs, rfl, d, s⟩ := LV.rd d1 z
  exact ⟨p, vs, rfl, .inl (hK ▸ s), fun q hq => k _ _ _ _ Ho (Same.refl _) (z.root hq) d hw⟩
theorem c_abs : VC1 (fun xs H Q => ∃ i, xs = [.int i] ∧ Q (.int (if i < 0 then -i else i)) H) (PD K) (PD K) (fun i : Int => W.ret (if i < 0 then -i else i)) := by
  intro rs x v H Ho z d1 Φ Q hw k
  rw [d_int d1]
  exact ⟨x, rfl, k _ _ H Ho (Same.refl _) z (.int _) hw⟩
theorem c_intB : VC1 (fun xs H Q => (∃ i, xs = [.int i] ∧ Q (.int i) H) ∨ ∃ k, xs = [.bl k] ∧ Q (.int (if k then 1 else 0)) H) (PD K) (PD K) (fun b : Bool => W.ret (if b then (1 : Int) else 0)) := by
  intro rs x v H Ho z d1 Φ Q hw k
  rw [d_bool d1]
  exact .inr ⟨x, rfl, k _ _ H Ho (Same.refl _) z (.int _) hw⟩
theorem c_all : VC1 (rAll K) (PL K) (PD K) (fun xs : List Bool => W.ret (xs.all id)) := by
  intro rs x v H Ho z d1 Φ Q hw k
  obtain ⟨p, vs, rfl, d, s⟩ := LV.rd d1 z
  rw [dl_bools d] at s
  exact ⟨p, x, rfl, s, k _ _ H Ho (Same.refl _) z (.bl _) hw⟩
theorem c_any : VC1 (rAny K) (PL K) (PD K) (fun xs : List Bool => W.ret (xs.any id)) := by
  intro rs x v H Ho z d1 Φ Q hw k
  obtain ⟨p, vs, rfl, d, s⟩ := LV.rd d1 z
  rw [dl_bools d] at s
  exact ⟨p, x, rfl, s, k _ _ H Ho (Same.refl _) z (.bl _) hw⟩
theorem c_min2 : VC2 (fun xs H Q => ∃ i j, xs = [.int i, .int j] ∧ Q (.int (if j < i then j else i)) H) (PD K) (PD K) (PD K) (fun i j : Int => W.ret (if j < i then j else i)) := by
  intro rs x v y u H Ho z d1 d2 Φ Q hw k
  rw [d_int d1, d_int d2]
  exact ⟨x, y, rfl, k _ _ H Ho (Same.refl _) z (.int _) hw⟩
theorem c_max2 : VC2 (fun xs H Q => ∃ i j, xs = [.int i, .int j] ∧ Q (.int (if j > i then j else i)) H) (PD K) (PD K) (PD K) (fun i j : Int => W.ret (if j > i then j else i)) := by
  intro rs x v y u H Ho z d1 d2 Φ Q hw k
  rw [d_int d1, d_int d2]
  exact ⟨x, y, rfl, k _ _ H Ho (Same.refl _) z (.int _) hw⟩
/-! ### isinstance: the kind is known -/
class Kin (β : Type) [Py β] where
  ty : String
  ok : ∀ {K : PySem.W.Frag} {H : Hp} {v : V} {x : β}, D K H v x → TyX K H v (.type ty)
theorem tyx_list {K : PySem.W.Frag} {H : Hp} {p : Addr} {vs : List V} (h : SqL K H p vs) : TyX K H (.ref p) (.type "list") := by
  rcases h with (h | ⟨o, h⟩) | ⟨o, its, n, h, hc, _⟩
  · exact .base (.lst h)
  · exact .base (.frz h)
  · exact .kList h hc
theorem tyx_tup {K : PySem.W.Frag} {H : Hp} {p : Addr} {vs : List V} (h : SqT K H p vs) : TyX K H (.ref p) (.type "tuple") := by
  rcases h with (h | ⟨o, h⟩) | ⟨o, its, n, h, hc, _⟩
  · exact .base (.tup h)
  · exact .fTuple h
  · exact .kTuple h hc
theorem dp_list {K : PySem.W.Frag} {H : Hp} {v : V} {ds : List PyData} (h : Dp K H v (.list ds)) : TyX K H v (.type "list") := by
  cases h with
  | lst hs _ => exact tyx_list hs
theorem dp_tup {K : PySem.W.Frag} {H : Hp} {v : V} {ds : List PyData} (h : Dp K H v (.tuple ds)) : TyX K H v (.type "tuple") := by
  cases h with
  | tup hs _ => exact tyx_tup hs
instance : Kin Int := ⟨"int", fun d => by rw [d_int d]; exact .base (.int _)⟩
instance : Kin Bool := ⟨"bool", fun d => by rw [d_bool d]; exact .base (.bl _)⟩
instance : Kin Str := ⟨"str", fun d => by rw [d_str d]; exact .base (.str _)⟩
instance : Kin Unit := ⟨"NoneType", fun d => by cases d; exact .base .non⟩
instance : Kin (List α) := ⟨"list", fun d => dp_list d⟩
instance {β γ : Type} [Py β] [Py γ] : Kin (β × γ) := ⟨"tuple", fun d => dp_tup d⟩
instance {β γ δ : Type} [Py β] [Py γ] [Py δ] : Kin (P3 β γ δ) := ⟨"tuple", fun d => dp_tup d⟩
instance {β γ δ ε : Type} [Py β] [Py γ] [Py δ] [Py ε] : Kin (P4 β γ δ ε) := ⟨"tuple", fun d => dp_tup d⟩
theorem ev_isi {β : Type} [Py β] [Kin β] {cx : W β} {c : W Bool} {T : String} {b : Bool} (ha : Ev rs te σ Ho (PQ K) cx) (hb : kitB (Kin.ty β) T = some b) (hc : c = W.bind cx fun _ => W.ret b) :
    Ev rs (tCB (rIsi K) (tCons te (tCons (tC (.ty T)) tNil))) σ Ho (PD K) c := by
  subst hc
  intro H1 Ho1 e z Φ Q hw k
  refine ha H1 Ho1 e z _ _ hw fun x v H2 Ho2 e2 z2 r2 hw => ?_
  exact ⟨v, .ty T, _, .type T, b, rfl, .ty T, Kin.ok (r2 H2 Ho2 (Same.refl _) z2), kit_ty hb, k b _ H2 Ho2 e2 z2 (.bl _) hw⟩
end

/-! ### what is walked -/
def rng (a b : Int) : List Int := (List.range (b - a).toNat).map fun k : Nat => a + k
/-- the turns of an iterator, by the items' data -/
def Trn {α : Type} [Py α] (K : PySem.W.Frag) (r0 : List (Addr × HO)) (J : It) (xs : List α) (Ho2 : Hp) : Prop :=
  ∀ i rs' H' Ho', Same Ho2 Ho' → Zs rs' H' Ho' → (∀ r ∈ r0, r ∈ rs') → (∀ a, xs[i]? = some a → J.go i H' ∧ ∀ x H'', J.yld i H' x H'' → ∃ Ho'', Same Ho' Ho'' ∧ (∀ rs, Zs rs H' Ho' → Zs rs H'' Ho'') ∧ D K Ho'' x a) ∧ (xs.length ≤ i → J.stop i H')
/-- an iterable, from a state -/
def Src {α : Type} [Py α] (K : PySem.W.Frag) (r0 : List (Addr × HO)) (wi : TI) (σ : L2.St) (H Ho : Hp) (G : List α → Hp → Hp → Prop) : Prop :=
  ∀ R : It → Hp → Prop, (∀ xs J H2 Ho2, Same Ho Ho2 → G xs H2 Ho2 → Trn K r0 J xs Ho2 → R J H2) → wi σ H R
section
variable {K : PySem.W.Frag} {rs r0 : List (Addr × HO)} {σ : L2.St} {H Ho : Hp} {ta tb tc te tl : TE} {tt tu : TT} {α β γ : Type} [Py α] [Py β] {p : Addr} {Φ : γ → Prop}
theorem src_stay {q : Addr} {ys : List V} {rs' : List (Addr × HO)} {H Ho' : Hp} (s : SqL K Ho q ys ∨ (q, HO.lst ys) ∈ rs) (e : Same Ho Ho') (z : Zs rs' H Ho') (sub : ∀ r ∈ rs, r ∈ rs') : SqL K H q ys := by
  rcases s with s | s
  · exact z.le.seq (e.seq s)
  · exact SqL.of (z.rt _ (sub _ s)).1
theorem DL.item {vs : List V} {xs : List α} {i : Nat} {v : V} {H : Hp} (h : DL K H vs xs) (e : vs[i]? = some v) : ∃ x, xs[i]? = some x ∧ D K H v x := by
  have hi : i < xs.length := by rw [← h.len]; exact (List.getElem?_eq_some_iff.mp e).1
  obtain ⟨w, ew, dw⟩ := h.get (List.getElem?_eq_getElem hi)
  rw [e] at ew
  cases ew
  exact ⟨_, List.getElem?_eq_getElem hi, dw⟩
theorem trn_list {q : Addr} {xs : List α} {v : V} (h : LV K r0 Ho v xs) (hv : v = .ref q) : Trn K r0 (Itl K q) xs Ho := by
  intro i rs' H' Ho' e z sub
  obtain ⟨q', ys, rfl, d, s⟩ := h
  cases hv
  have sq : SqL K H' q ys := src_stay s e z sub
  refine ⟨fun a ha => ?_, fun hl => ⟨ys, sq, by rw [d.len]; exact hl⟩⟩
  obtain ⟨w, ew, dw⟩ := d.get ha
  refine ⟨⟨ys, w, sq, ew⟩, fun x H'' y => ?_⟩
  obtain ⟨rfl, y⟩ := y
  have ex : x = w := Option.some.inj ((y _ sq).symm.trans ew)
  subst ex
  exact ⟨Ho', Same.refl _, fun _ z => z, D.mo dw e⟩
/-- over data -/
theorem src_D {f : List α → W γ} {c : W (List α)} (z : Zs rs H Ho) (hw : (W.bind c f).run Φ) (he : Ev rs te σ Ho (PD K) c) : Src K [] (iList K te) σ H Ho (fun xs H' Ho' => Zs rs H' Ho' ∧ (f xs).run Φ) := by
  intro R k
  refine he H Ho (Same.refl _) z _ _ hw fun xs v H2 Ho2 e2 z2 d hw => ?_
  obtain ⟨q, ys, rfl, dd, s⟩ := LV.of (rs := []) d
  have s' : SqL K H2 q ys := src_stay s (Same.refl _) z2 (fun r m => by cases m)
  exact ⟨q, rfl, ⟨ys, s'⟩, k xs _ H2 Ho2 e2 ⟨z2, hw⟩ (trn_list ⟨q, ys, rfl, dd, s⟩ rfl)⟩
/-- over a list of the caller's or of one's own that stays -/
theorem src_V {i : Nat} {v : V} {xs : List α} (z : Zs rs H Ho) (d : LV K r0 Ho v xs) (hv : σ[i]? = some (some v)) (hs : ∀ r ∈ r0, r ∈ rs) : Src K r0 (iList K (tVar i)) σ H Ho (fun ys H' Ho' => ys = xs ∧ H' = H ∧ Ho' = Ho) := by
  intro R k
  refine ⟨v, hv, ?_⟩
  obtain ⟨q, ys, rfl, dd, s⟩ := d
  have s' : SqL K H q ys := src_stay s (Same.refl _) z hs
  exact ⟨q, rfl, ⟨ys, s'⟩, k xs _ H Ho (Same.refl _) ⟨rfl, rfl, rfl⟩ (trn_list ⟨q, ys, rfl, dd, s⟩ rfl)⟩
theorem rng_get {a b : Int} {i : Nat} {x : Int} (h : (rng a b)[i]? = some x) : i < (b - a).toNat ∧ x = a + i := by
  unfold rng at h
  rw [List.getElem?_map] at h
  cases e : (List.range (b - a).toNat)[i]? with
  | none => rw [e] at h; cases h
  | some k =>
    rw [e] at h
    obtain ⟨hl, ek⟩ := List.getElem?_eq_some_iff.mp e
    rw [List.getElem_range] at ek
    subst ek
    rw [List.length_range] at hl
    exact ⟨hl, (Option.some.inj h).symm⟩
theorem rng_len {a b : Int} : (rng a b).length = (b - a).toNat := by unfold rng; simp
theorem trn_range {a b : Int} : Trn K [] (Itr a (b - a).toNat) (rng a b) Ho := by
  intro i rs' H' Ho' e z sub
  refine ⟨fun x hx => ?_, fun hl => ?_⟩
  · obtain ⟨hi, rfl⟩ := rng_get hx
    refine ⟨hi, fun y H'' yy => ?_⟩
    obtain ⟨rfl, rfl⟩ := yy
    exact ⟨Ho', Same.refl _, fun _ z => z, .int _⟩
  · rw [rng_len] at hl
    exact hl
def rngOk (a b : Int) : Prop := -(2 ^ 62) ≤ a ∧ a < 2 ^ 62 ∧ -(2 ^ 62) ≤ b ∧ b < 2 ^ 62
theorem src_R1 {f : List Int → W γ} {c : W Int} (z : Zs rs H Ho) (hw : (W.bind c fun n => W.guard (rngOk 0 n) (f (rng 0 n))).run Φ) (he : Ev rs te σ Ho (PD K) c) : Src K [] (iRng1 (tCons te tNil)) σ H Ho (fun xs H' Ho' => Zs rs H' Ho' ∧ (f xs).run Φ) := by
  intro R k
  refine he H Ho (Same.refl _) z _ _ hw fun n v H2 Ho2 e2 z2 d hw => ?_
  rw [d_int d]
  refine ⟨n, rfl, hw.1.2.2.1, hw.1.2.2.2, ?_⟩
  have e : n.toNat = (n - 0).toNat := by rw [Int.sub_zero]
  rw [e]
  exact k _ _ H2 Ho2 e2 ⟨z2, hw.2⟩ trn_range
theorem src_R2 {f : List Int → W γ} {c c' : W Int} (z : Zs rs H Ho) (hw : (W.bind c fun a => W.bind c' fun b => W.guard (rngOk a b) (f (rng a b))).run Φ) (he : Ev rs ta σ Ho (PD K) c) (hb : Ev rs tb σ Ho (PD K) c') : Src K [] (iRng2 (tCons ta (tCons tb tNil))) σ H Ho (fun xs H' Ho' => Zs rs H' Ho' ∧ (f xs).run Φ) := by
  intro R k
  refine he H Ho (Same.refl _) z _ _ hw fun a v H2 Ho2 e2 z2 d hw => ?_
  refine hb H2 Ho2 e2 z2 _ _ hw fun b u H3 Ho3 e3 z3 d3 hw => ?_
  rw [d_int d, d_int d3]
  exact ⟨a, b, rfl, hw.1, k _ _ H3 Ho3 (e2.trans e3) ⟨z3, hw.2⟩ trn_range⟩
theorem src_R1M {θ : Type} [Py θ] {f : List Int → List θ → W γ} {c : List θ → W (Int × List θ)} {ws : List V} {s : List θ} (z : Zs ((p, .lst ws) :: rs) H Ho) (d : DL K Ho ws s) (hw : (W.bind2 (c s) fun n s1 => W.guard (rngOk 0 n) (f (rng 0 n) s1)).run Φ) (he : Em K p rs te σ Ho c) :
    Src K [] (iRng1 (tCons te tNil)) σ H Ho (fun xs H' Ho' => ∃ s' ws', Zs ((p, .lst ws') :: rs) H' Ho' ∧ DL K Ho' ws' s' ∧ (f xs s').run Φ) := by
  intro R k
  refine he H Ho ws s (Same.refl _) z d _ _ hw fun n s' v ws' H2 Ho2 e2 z2 d2 r hw => ?_
  rw [d_int r]
  refine ⟨n, rfl, hw.1.2.2.1, hw.1.2.2.2, ?_⟩
  have e : n.toNat = (n - 0).toNat := by rw [Int.sub_zero]
  rw [e]
  exact k _ _ H2 Ho2 e2 ⟨s', ws', z2, d2, hw.2⟩ trn_range
theorem src_DM {θ : Type} [Py θ] {f : List α → List θ → W γ} {c : List θ → W (List α × List θ)} {ws : List V} {s : List θ} (z : Zs ((p, .lst ws) :: rs) H Ho) (d : DL K Ho ws s) (hw : (W.bind2 (c s) f).run Φ) (he : Em K p rs te σ Ho c) :
    Src K [] (iList K te) σ H Ho (fun xs H' Ho' => ∃ s' ws', Zs ((p, .lst ws') :: rs) H' Ho' ∧ DL K Ho' ws' s' ∧ (f xs s').run Φ) := by
  intro R k
  refine he H Ho ws s (Same.refl _) z d _ _ hw fun xs s' v ws' H2 Ho2 e2 z2 d2 r hw => ?_
  obtain ⟨q, ys, rfl, dd, sq⟩ := LV.of (rs := []) r
  have s' : SqL K H2 q ys := src_stay sq (Same.refl _) z2 (fun r m => by cases m)
  exact ⟨q, rfl, ⟨ys, s'⟩, k xs _ H2 Ho2 e2 ⟨_, ws', z2, d2, hw⟩ (trn_list ⟨q, ys, rfl, dd, sq⟩ rfl)⟩

/-! ### targets -/
theorem gt_name {i : Nat} {x : V} {σ σ' : L2.St} {Q : L2.St → Hp → Prop} (hs : σ.set i (some x) = σ') (h : Q σ' H) : gName i x σ H Q := by
  show Q _ H
  rw [hs]
  exact h
theorem gt_t2 {i j : Nat} {x : V} {σ : L2.St} {Q : L2.St → Hp → Prop} {a : α × β} (d : D K Ho x a) (z : Zs rs H Ho) (k : ∀ v u, D K Ho v a.1 → D K Ho u a.2 → Q ((σ.set i (some v)).set j (some u)) H) : gTup K 2 (gCons (gName i) (gCons (gName j) gNil)) x σ H Q := by
  cases d with
  | tup hs ha =>
    cases ha with
    | cons h1 h2 =>
      cases h2 with
      | cons h2 h3 =>
        cases h3
        exact ⟨_, _, rfl, Same.sqT z.le hs, rfl, _, _, rfl, _, _, rfl, rfl, k _ _ h1 h2⟩
theorem gt_t3 {δ : Type} [Py δ] {i j l : Nat} {x : V} {σ : L2.St} {Q : L2.St → Hp → Prop} {a : P3 α β δ} (d : D K Ho x a) (z : Zs rs H Ho) (k : ∀ v u w, D K Ho v a.a → D K Ho u a.b → D K Ho w a.c → Q (((σ.set i (some v)).set j (some u)).set l (some w)) H) :
    gTup K 3 (gCons (gName i) (gCons (gName j) (gCons (gName l) gNil))) x σ H Q := by
  cases d with
  | tup hs ha =>
    cases ha with
    | cons h1 h2 =>
      cases h2 with
      | cons h2 h3 =>
        cases h3 with
        | cons h3 h4 =>
          cases h4
          exact ⟨_, _, rfl, Same.sqT z.le hs, rfl, _, _, rfl, _, _, rfl, _, _, rfl, rfl, k _ _ _ h1 h2 h3⟩
theorem gt_t4 {δ ε : Type} [Py δ] [Py ε] {i j l m : Nat} {x : V} {σ : L2.St} {Q : L2.St → Hp → Prop} {a : P4 α β δ ε} (d : D K Ho x a) (z : Zs rs H Ho) (k : ∀ v u w t, D K Ho v a.a → D K Ho u a.b → D K Ho w a.c → D K Ho t a.d → Q ((((σ.set i (some v)).set j (some u)).set l (some w)).set m (some t)) H) :
    gTup K 4 (gCons (gName i) (gCons (gName j) (gCons (gName l) (gCons (gName m) gNil)))) x σ H Q := by
  cases d with
  | tup hs ha =>
    cases ha with
    | cons h1 h2 =>
      cases h2 with
      | cons h2 h3 =>
        cases h3 with
        | cons h3 h4 =>
          cases h4 with
          | cons h4 h5 =>
            cases h5
            exact ⟨_, _, rfl, Same.sqT z.le hs, rfl, _, _, rfl, _, _, rfl, _, _, rfl, _, _, rfl, rfl, k _ _ _ _ h1 h2 h3 h4⟩
end

/-! ### comprehensions -/
theorem drop_cons {γ : Type} {xs : List γ} {i : Nat} {x : γ} (h : xs[i]? = some x) : xs.drop i = x :: xs.drop (i + 1) := by
  obtain ⟨hi, e⟩ := List.getElem?_eq_some_iff.mp h
  rw [List.drop_eq_getElem_cons hi, e]
def comp {α β : Type} : List α → List β → (α → W Bool) → (α → W β) → W (List β)
  | [], acc, _, _ => W.ret acc
  | x :: xs, acc, t, f => W.bind (t x) fun b => W.ite b (W.bind (f x) fun y => comp xs (acc ++ [y]) t f) (comp xs acc t f)
def compG {α β : Type} (xs : List α) (t : α → W Bool) (f : α → W β) : W (List β) := W.guard (xs.length ≤ sizeLine) (comp xs [] t f)
def compM {α β θ : Type} : List α → List β → θ → (α → θ → W (Bool × θ)) → (α → θ → W (β × θ)) → W (List β × θ)
  | [], acc, s, _, _ => W.ret (acc, s)
  | x :: xs, acc, s, t, f => W.bind2 (t x s) fun b s1 => W.ite b (W.bind2 (f x s1) fun y s2 => compM xs (acc ++ [y]) s2 t f) (compM xs acc s1 t f)
def compMG {α β θ : Type} (xs : List α) (s : θ) (t : α → θ → W (Bool × θ)) (f : α → θ → W (β × θ)) : W (List β × θ) := W.guard (xs.length ≤ sizeLine) (compM xs [] s t f)
section
variable {K : PySem.W.Frag} {rs r0 : List (Addr × HO)} {σ : L2.St} {H Ho : Hp} {ta tb tc te tl : TE} {tt tu : TT} {α β γ : Type} [Py α] [Py β] {p : Addr} {Φ : γ → Prop} {wi : TI} {g : TG}
/-- the turns of a comprehension -/
theorem lc_W {J : It} {xs : List α} {vs : List Nat} {H1 Ho1 : Hp} {Dn : Addr} {Qd : Hp → Prop} {ct : α → W Bool} {cf : α → W β} {Φ : List β → Prop} (z : Zs rs H1 Ho1) (hD : H1 Dn = none) (hr : ∀ r ∈ r0, r ∈ rs) (T : Trn K r0 J xs Ho1) (hw : (compG xs ct cf).run Φ)
    (hx : ∀ r x a H' Ho', Same Ho1 Ho' → Zs (r :: rs) H' Ho' → D K Ho' x a → ∀ Q : L2.St → Hp → Prop, (∀ σ2, wipe σ2 vs = wipe σ vs → Et (r :: rs) tt σ2 Ho' (ct a) → Ev (r :: rs) te σ2 Ho' (PD K) (cf a) → Q σ2 H') → g x (wipe σ vs) H' Q)
    (hd : ∀ ys acs H' Ho', Same Ho1 Ho' → Zs ((Dn, .lst acs) :: rs) H' Ho' → DL K Ho' acs ys → Φ ys → Qd H') :
    ∃ W : Nat → Nat → Hp → Prop, (∃ m, W 0 m (upd H1 Dn (.lst []))) ∧ ∀ i m H, W i m H →
      (J.stop i H ∧ Qd H) ∨ (J.go i H ∧ ∃ Nx : Hp → Prop, (∀ H', Nx H' → ∃ m', m' < m ∧ W (i + 1) m' H') ∧ ∀ x H', J.yld i H x H' → g x (wipe σ vs) H' fun σ2 H2 => wipe σ2 vs = wipe σ vs ∧ tt σ2 H2 fun b H3 =>
        if b = true then te σ2 H3 fun y H4 => ∃ acc, H4 Dn = some (.lst acc) ∧ acc.length < sizeLine ∧ Nx (upd H4 Dn (.lst (acc ++ [y]))) else Nx H3) := by
  obtain ⟨hsz, hw⟩ := hw
  refine ⟨fun i m H => m = xs.length - i ∧ i ≤ xs.length ∧ ∃ (Ho' : Hp) (acc : List β) (acs : List V), Same Ho1 Ho' ∧ Zs ((Dn, .lst acs) :: rs) H Ho' ∧ DL K Ho' acs acc ∧ acs.length ≤ i ∧ (comp (xs.drop i) acc ct cf).run Φ,
    ⟨xs.length, by simp, Nat.zero_le _, Ho1, [], [], Same.refl _, z.root hD, .nil, Nat.le_refl _, hw⟩, ?_⟩
  rintro i m H ⟨rfl, hi, Ho', acc, acs, e', z', da, la, hw⟩
  have tr := T i _ H Ho' e' z' fun r hrr => List.mem_cons_of_mem _ (hr r hrr)
  by_cases hlt : i < xs.length
  · refine .inr ?_
    have hxi := List.getElem?_eq_getElem hlt
    obtain ⟨go, yl⟩ := tr.1 _ hxi
    refine ⟨go, fun H' => ∃ (Ho' : Hp) (acc : List β) (acs : List V), Same Ho1 Ho' ∧ Zs ((Dn, .lst acs) :: rs) H' Ho' ∧ DL K Ho' acs acc ∧ acs.length ≤ i + 1 ∧ (comp (xs.drop (i + 1)) acc ct cf).run Φ, fun H' hN => ⟨xs.length - (i + 1), by omega, rfl, hlt, hN⟩, fun x H' y => ?_⟩
    obtain ⟨Ho2, e2, z2, dx⟩ := yl x H' y
    rw [drop_cons hxi] at hw
    refine hx (Dn, .lst acs) x _ H' Ho2 (e'.trans e2) (z2 _ z') dx _ fun σ2 hσ ht hf => ⟨hσ, ?_⟩
    have hw : (W.bind (ct xs[i]) fun b => W.ite b (W.bind (cf xs[i]) fun y => comp (xs.drop (i + 1)) (acc ++ [y]) ct cf) (comp (xs.drop (i + 1)) acc ct cf)).run Φ := hw
    refine ht H' Ho2 (Same.refl _) (z2 _ z') _ _ hw fun b H3 Ho3 e3 z3 hw => ?_
    cases b with
    | true =>
      refine iteT (hf H3 Ho3 e3 z3 _ _ (hw.1 rfl) fun y w H4 Ho4 e4 z4 r4 hw => ?_)
      refine ⟨acs, z4.head, by omega, Ho4, acc ++ [y], acs ++ [w], ((e'.trans e2).trans e3).trans e4, z4.put, (DL.mo (DL.mo (DL.mo da e2) e3) e4).push r4, ?_, hw⟩
      rw [List.length_append]
      exact Nat.succ_le_succ la
    | false => exact iteF ⟨Ho3, acc, acs, (e'.trans e2).trans e3, z3, DL.mo (DL.mo da e2) e3, Nat.le_succ_of_le la, hw.2 rfl⟩
  · have e : i = xs.length := by omega
    subst e
    refine .inl ⟨tr.2 (Nat.le_refl _), ?_⟩
    rw [List.drop_length] at hw
    exact hd acc acs H Ho' e' z' da hw
theorem Trn.mo {J : It} {xs : List α} {Ho' : Hp} (h : Trn K r0 J xs Ho) (e : Same Ho Ho') : Trn K r0 J xs Ho' := fun i rs' H' Ho2 e2 => h i rs' H' Ho2 (e.trans e2)
/-- an iterable, from anywhere on -/
def Sx {α : Type} [Py α] (K : PySem.W.Frag) (r0 rs : List (Addr × HO)) (wi : TI) (σ : L2.St) (Ho : Hp) (c : W (List α)) : Prop :=
  ∀ H1 Ho1, Same Ho Ho1 → Zs rs H1 Ho1 → ∀ (Φ : List α → Prop), c.run Φ → Src K r0 wi σ H1 Ho1 (fun xs H' Ho' => Zs rs H' Ho' ∧ Φ xs)
theorem ef_lc {vs : List Nat} {cx : W (List α)} {ct : α → W Bool} {cf : α → W β} {c : W (List β)} (hs : Sx K r0 rs wi σ Ho cx) (hr : ∀ r ∈ r0, r ∈ rs)
    (hx : ∀ r x a H' Ho', Same Ho Ho' → Zs (r :: rs) H' Ho' → D K Ho' x a → ∀ Q : L2.St → Hp → Prop, (∀ σ2, wipe σ2 vs = wipe σ vs → Et (r :: rs) tt σ2 Ho' (ct a) → Ev (r :: rs) te σ2 Ho' (PD K) (cf a) → Q σ2 H') → g x (wipe σ vs) H' Q)
    (hc : c = W.bind cx fun xs => compG xs ct cf) : Ef K rs (tLc wi g tt te vs) σ Ho c := by
  subst hc
  intro H1 Ho1 e z Φ Q hw k
  refine hs H1 Ho1 e z _ hw _ fun xs J H2 Ho2 e2 ⟨z2, hw⟩ T Dn hD => ?_
  exact lc_W (σ := σ) z2 hD hr T hw (fun r x a H' Ho' e' => hx r x a H' Ho' ((e.trans e2).trans e')) fun ys acs H' Ho' e' z' d' hw => k ys Dn acs H' Ho' (e2.trans e') z' d' hw
theorem sx_D {c : W (List α)} (he : Ev rs te σ Ho (PD K) c) : Sx K [] rs (iList K te) σ Ho c := by
  intro H1 Ho1 e z Φ hw
  exact src_D (f := fun xs => ⟨fun _ => Φ xs, fun _ _ _ h => h⟩) (γ := Unit) (Φ := fun _ => True) z hw (fun H2 Ho2 e2 => he H2 Ho2 (e.trans e2))
theorem sx_V {i : Nat} {v : V} {xs : List α} {c : W (List α)} (d : LV K r0 Ho v xs) (hv : σ[i]? = some (some v)) (hs : ∀ r ∈ r0, r ∈ rs) (hc : c = W.ret xs) : Sx K r0 rs (iList K (tVar i)) σ Ho c := by
  subst hc
  intro H1 Ho1 e z Φ hw R k
  exact src_V z (LV.mo d e) hv hs R fun ys J H2 Ho2 e2 ⟨ey, e3, e4⟩ => k ys J H2 Ho2 e2 ⟨by subst e3 e4; exact z, by subst ey; exact hw⟩
theorem sx_R1 {c : W Int} {c' : W (List Int)} (he : Ev rs te σ Ho (PD K) c) (hc : c' = W.bind c fun n => W.guard (rngOk 0 n) (W.ret (rng 0 n))) : Sx K [] rs (iRng1 (tCons te tNil)) σ Ho c' := by
  subst hc
  intro H1 Ho1 e z Φ hw
  exact src_R1 (f := fun xs => ⟨fun _ => Φ xs, fun _ _ _ h => h⟩) (γ := Unit) (Φ := fun _ => True) z hw (fun H2 Ho2 e2 => he H2 Ho2 (e.trans e2))
theorem sx_R2 {c c2 : W Int} {c' : W (List Int)} (he : Ev rs ta σ Ho (PD K) c) (hb : Ev rs tb σ Ho (PD K) c2) (hc : c' = W.bind c fun a => W.bind c2 fun b => W.guard (rngOk a b) (W.ret (rng a b))) : Sx K [] rs (iRng2 (tCons ta (tCons tb tNil))) σ Ho c' := by
  subst hc
  intro H1 Ho1 e z Φ hw
  exact src_R2 (f := fun xs => ⟨fun _ => Φ xs, fun _ _ _ h => h⟩) (γ := Unit) (Φ := fun _ => True) z hw (fun H2 Ho2 e2 => he H2 Ho2 (e.trans e2)) (fun H2 Ho2 e2 => hb H2 Ho2 (e.trans e2))
end

/-! ### defs that write nothing -/
def Sp1 {α γ : Type} (P1 : Pm α) (P : Pm γ) (f : α → W γ) : Sp := fun vs H Q _ => ∃ rs Ho v1 x1, vs = [v1] ∧ Zs rs H Ho ∧ P1 rs Ho v1 x1 ∧ (f x1).run fun r => ∀ v H' Ho', Same Ho Ho' → Zs rs H' Ho' → P rs Ho' v r → Q v H'
def Sp2 {α β γ : Type} (P1 : Pm α) (P2 : Pm β) (P : Pm γ) (f : α → β → W γ) : Sp := fun vs H Q _ => ∃ rs Ho v1 x1 v2 x2, vs = [v1, v2] ∧ Zs rs H Ho ∧ P1 rs Ho v1 x1 ∧ P2 rs Ho v2 x2 ∧ (f x1 x2).run fun r => ∀ v H' Ho', Same Ho Ho' → Zs rs H' Ho' → P rs Ho' v r → Q v H'
def Sp3 {α β γ δ : Type} (P1 : Pm α) (P2 : Pm β) (P3 : Pm γ) (P : Pm δ) (f : α → β → γ → W δ) : Sp := fun vs H Q _ => ∃ rs Ho v1 x1 v2 x2 v3 x3, vs = [v1, v2, v3] ∧ Zs rs H Ho ∧ P1 rs Ho v1 x1 ∧ P2 rs Ho v2 x2 ∧ P3 rs Ho v3 x3 ∧ (f x1 x2 x3).run fun r => ∀ v H' Ho', Same Ho Ho' → Zs rs H' Ho' → P rs Ho' v r → Q v H'
def Sp4 {α β γ δ ε : Type} (P1 : Pm α) (P2 : Pm β) (P3 : Pm γ) (P4 : Pm δ) (P : Pm ε) (f : α → β → γ → δ → W ε) : Sp := fun vs H Q _ => ∃ rs Ho v1 x1 v2 x2 v3 x3 v4 x4, vs = [v1, v2, v3, v4] ∧ Zs rs H Ho ∧ P1 rs Ho v1 x1 ∧ P2 rs Ho v2 x2 ∧ P3 rs Ho v3 x3 ∧ P4 rs Ho v4 x4 ∧ (f x1 x2 x3 x4).run fun r => ∀ v H' Ho', Same Ho Ho' → Zs rs H' Ho' → P rs Ho' v r → Q v H'
/-- .. a new list comes out -/
def Sf1 {α γ : Type} [Py γ] (K : PySem.W.Frag) (P1 : Pm α) (f : α → W (List γ)) : Sp := fun vs H Q _ => ∃ rs Ho v1 x1, vs = [v1] ∧ Zs rs H Ho ∧ P1 rs Ho v1 x1 ∧ (f x1).run fun r => ∀ p vs H' Ho', Same Ho Ho' → Zs ((p, .lst vs) :: rs) H' Ho' → DL K Ho' vs r → Q (.ref p) H'
def Sf2 {α β γ : Type} [Py γ] (K : PySem.W.Frag) (P1 : Pm α) (P2 : Pm β) (f : α → β → W (List γ)) : Sp := fun vs H Q _ => ∃ rs Ho v1 x1 v2 x2, vs = [v1, v2] ∧ Zs rs H Ho ∧ P1 rs Ho v1 x1 ∧ P2 rs Ho v2 x2 ∧ (f x1 x2).run fun r => ∀ p vs H' Ho', Same Ho Ho' → Zs ((p, .lst vs) :: rs) H' Ho' → DL K Ho' vs r → Q (.ref p) H'
def Sf3 {α β γ δ : Type} [Py δ] (K : PySem.W.Frag) (P1 : Pm α) (P2 : Pm β) (P3 : Pm γ) (f : α → β → γ → W (List δ)) : Sp := fun vs H Q _ => ∃ rs Ho v1 x1 v2 x2 v3 x3, vs = [v1, v2, v3] ∧ Zs rs H Ho ∧ P1 rs Ho v1 x1 ∧ P2 rs Ho v2 x2 ∧ P3 rs Ho v3 x3 ∧ (f x1 x2 x3).run fun r => ∀ p vs H' Ho', Same Ho Ho' → Zs ((p, .lst vs) :: rs) H' Ho' → DL K Ho' vs r → Q (.ref p) H'
def Sf4 {α β γ δ ε : Type} [Py ε] (K : PySem.W.Frag) (P1 : Pm α) (P2 : Pm β) (P3 : Pm γ) (P4 : Pm δ) (f : α → β → γ → δ → W (List ε)) : Sp := fun vs H Q _ => ∃ rs Ho v1 x1 v2 x2 v3 x3 v4 x4, vs = [v1, v2, v3, v4] ∧ Zs rs H Ho ∧ P1 rs Ho v1 x1 ∧ P2 rs Ho v2 x2 ∧ P3 rs Ho v3 x3 ∧ P4 rs Ho v4 x4 ∧ (f x1 x2 x3 x4).run fun r => ∀ p vs H' Ho', Same Ho Ho' → Zs ((p, .lst vs) :: rs) H' Ho' → DL K Ho' vs r → Q (.ref p) H'
/-! ### defs that write the list that is handed in first -/
def Sm1 {θ γ : Type} [Py θ] [Py γ] (K : PySem.W.Frag) (f : List θ → W (γ × List θ)) : Sp := fun vs H Q _ => ∃ rs Ho p ws s, vs = [.ref p] ∧ Zs ((p, .lst ws) :: rs) H Ho ∧ DL K Ho ws s ∧ (f s).run fun r => ∀ v ws' H' Ho', Same Ho Ho' → Zs ((p, .lst ws') :: rs) H' Ho' → DL K Ho' ws' r.2 → D K Ho' v r.1 → Q v H'
def Sm2 {θ α γ : Type} [Py θ] [Py γ] (K : PySem.W.Frag) (P1 : Pm α) (f : List θ → α → W (γ × List θ)) : Sp := fun vs H Q _ => ∃ rs Ho p ws s v1 x1, vs = [.ref p, v1] ∧ Zs ((p, .lst ws) :: rs) H Ho ∧ DL K Ho ws s ∧ P1 rs Ho v1 x1 ∧ (f s x1).run fun r => ∀ v ws' H' Ho', Same Ho Ho' → Zs ((p, .lst ws') :: rs) H' Ho' → DL K Ho' ws' r.2 → D K Ho' v r.1 → Q v H'
def Sm3 {θ α β γ : Type} [Py θ] [Py γ] (K : PySem.W.Frag) (P1 : Pm α) (P2 : Pm β) (f : List θ → α → β → W (γ × List θ)) : Sp := fun vs H Q _ => ∃ rs Ho p ws s v1 x1 v2 x2, vs = [.ref p, v1, v2] ∧ Zs ((p, .lst ws) :: rs) H Ho ∧ DL K Ho ws s ∧ P1 rs Ho v1 x1 ∧ P2 rs Ho v2 x2 ∧ (f s x1 x2).run fun r => ∀ v ws' H' Ho', Same Ho Ho' → Zs ((p, .lst ws') :: rs) H' Ho' → DL K Ho' ws' r.2 → D K Ho' v r.1 → Q v H'
def Smf1 {θ γ : Type} [Py θ] [Py γ] (K : PySem.W.Frag) (f : List θ → W (List γ × List θ)) : Sp := fun vs H Q _ => ∃ rs Ho p ws s, vs = [.ref p] ∧ Zs ((p, .lst ws) :: rs) H Ho ∧ DL K Ho ws s ∧ (f s).run fun r => ∀ q us ws' H' Ho', Same Ho Ho' → Zs ((q, .lst us) :: (p, .lst ws') :: rs) H' Ho' → DL K Ho' ws' r.2 → DL K Ho' us r.1 → Q (.ref q) H'
def Smf2 {θ α γ : Type} [Py θ] [Py γ] (K : PySem.W.Frag) (P1 : Pm α) (f : List θ → α → W (List γ × List θ)) : Sp := fun vs H Q _ => ∃ rs Ho p ws s v1 x1, vs = [.ref p, v1] ∧ Zs ((p, .lst ws) :: rs) H Ho ∧ DL K Ho ws s ∧ P1 rs Ho v1 x1 ∧ (f s x1).run fun r => ∀ q us ws' H' Ho', Same Ho Ho' → Zs ((q, .lst us) :: (p, .lst ws') :: rs) H' Ho' → DL K Ho' ws' r.2 → DL K Ho' us r.1 → Q (.ref q) H'
def Smf3 {θ α β γ : Type} [Py θ] [Py γ] (K : PySem.W.Frag) (P1 : Pm α) (P2 : Pm β) (f : List θ → α → β → W (List γ × List θ)) : Sp := fun vs H Q _ => ∃ rs Ho p ws s v1 x1 v2 x2, vs = [.ref p, v1, v2] ∧ Zs ((p, .lst ws) :: rs) H Ho ∧ DL K Ho ws s ∧ P1 rs Ho v1 x1 ∧ P2 rs Ho v2 x2 ∧ (f s x1 x2).run fun r => ∀ q us ws' H' Ho', Same Ho Ho' → Zs ((q, .lst us) :: (p, .lst ws') :: rs) H' Ho' → DL K Ho' ws' r.2 → DL K Ho' us r.1 → Q (.ref q) H'

section
variable {K : PySem.W.Frag} {rs r0 : List (Addr × HO)} {σ : L2.St} {H Ho : Hp} {t1 t2 t3 t4 te : TE} {α β γ δ ε θ : Type} {p : Addr} {E : XK}
theorem ev_call1 {P1 : Pm α} {P : Pm γ} {f : α → W γ} {c1 : W α} {c : W γ} (h1 : Ev rs t1 σ Ho P1 c1) (hc : c = W.bind c1 f) : Ev rs (tCall (Sp1 P1 P f) [] E (tCons t1 tNil)) σ Ho P c := by
  subst hc
  intro H1 Ho1 e z Φ Q hw k
  refine h1 H1 Ho1 e z _ _ hw fun x v H2 Ho2 e2 z2 r2 hw => ?_
  exact ⟨rs, Ho2, v, x, rfl, z2, r2, W.mono _ _ _ (fun r hr v' H' Ho' e' z' d' => k r v' H' Ho' (e2.trans e') z' d' hr) hw⟩
theorem ev_call2 {P1 : Pm α} {P2 : Pm β} {P : Pm γ} [Mo P1] {f : α → β → W γ} {c1 : W α} {c2 : W β} {c : W γ} (h1 : Ev rs t1 σ Ho P1 c1) (h2 : Ev rs t2 σ Ho P2 c2) (hc : c = W.bind c1 fun a => W.bind c2 fun b => f a b) : Ev rs (tCall (Sp2 P1 P2 P f) [] E (tCons t1 (tCons t2 tNil))) σ Ho P c := by
  subst hc
  intro H1 Ho1 e z Φ Q hw k
  refine h1 H1 Ho1 e z _ _ hw fun x v H2 Ho2 e2 z2 r2 hw => ?_
  refine h2 H2 Ho2 (e.trans e2) z2 _ _ hw fun y u H3 Ho3 e3 z3 r3 hw => ?_
  exact ⟨rs, Ho3, v, x, u, y, rfl, z3, Mo.mo r2 e3, r3, W.mono _ _ _ (fun r hr v' H' Ho' e' z' d' => k r v' H' Ho' (e2.trans (e3.trans e')) z' d' hr) hw⟩
theorem ev_call3 {P1 : Pm α} {P2 : Pm β} {P3 : Pm γ} {P : Pm δ} [Mo P1] [Mo P2] {f : α → β → γ → W δ} {c1 : W α} {c2 : W β} {c3 : W γ} {c : W δ} (h1 : Ev rs t1 σ Ho P1 c1) (h2 : Ev rs t2 σ Ho P2 c2) (h3 : Ev rs t3 σ Ho P3 c3)
    (hc : c = W.bind c1 fun a => W.bind c2 fun b => W.bind c3 fun d => f a b d) : Ev rs (tCall (Sp3 P1 P2 P3 P f) [] E (tCons t1 (tCons t2 (tCons t3 tNil)))) σ Ho P c := by
  subst hc
  intro H1 Ho1 e z Φ Q hw k
  refine h1 H1 Ho1 e z _ _ hw fun x v H2 Ho2 e2 z2 r2 hw => ?_
  refine h2 H2 Ho2 (e.trans e2) z2 _ _ hw fun y u H3 Ho3 e3 z3 r3 hw => ?_
  refine h3 H3 Ho3 ((e.trans e2).trans e3) z3 _ _ hw fun t w H4 Ho4 e4 z4 r4 hw => ?_
  exact ⟨rs, Ho4, v, x, u, y, w, t, rfl, z4, Mo.mo (Mo.mo r2 e3) e4, Mo.mo r3 e4, r4, W.mono _ _ _ (fun r hr v' H' Ho' e' z' d' => k r v' H' Ho' (e2.trans (e3.trans (e4.trans e'))) z' d' hr) hw⟩
theorem ev_call4 {P1 : Pm α} {P2 : Pm β} {P3 : Pm γ} {P4 : Pm δ} {P : Pm ε} [Mo P1] [Mo P2] [Mo P3] {f : α → β → γ → δ → W ε} {c1 : W α} {c2 : W β} {c3 : W γ} {c4 : W δ} {c : W ε} (h1 : Ev rs t1 σ Ho P1 c1) (h2 : Ev rs t2 σ Ho P2 c2) (h3 : Ev rs t3 σ Ho P3 c3) (h4 : Ev rs t4 σ Ho P4 c4)
    (hc : c = W.bind c1 fun a => W.bind c2 fun b => W.bind c3 fun d => W.bind c4 fun e => f a b d e) : Ev rs (tCall (Sp4 P1 P2 P3 P4 P f) [] E (tCons t1 (tCons t2 (tCons t3 (tCons t4 tNil))))) σ Ho P c := by
  subst hc
  intro H1 Ho1 e z Φ Q hw k
  refine h1 H1 Ho1 e z _ _ hw fun x v H2 Ho2 e2 z2 r2 hw => ?_
  refine h2 H2 Ho2 (e.trans e2) z2 _ _ hw fun y u H3 Ho3 e3 z3 r3 hw => ?_
  refine h3 H3 Ho3 ((e.trans e2).trans e3) z3 _ _ hw fun t w H4 Ho4 e4 z4 r4 hw => ?_
  refine h4 H4 Ho4 (((e.trans e2).trans e3).trans e4) z4 _ _ hw fun t' w' H5 Ho5 e5 z5 r5 hw => ?_
  exact ⟨rs, Ho5, v, x, u, y, w, t, w', t', rfl, z5, Mo.mo (Mo.mo (Mo.mo r2 e3) e4) e5, Mo.mo (Mo.mo r3 e4) e5, Mo.mo r4 e5, r5, W.mono _ _ _ (fun r hr v' H' Ho' e' z' d' => k r v' H' Ho' (e2.trans (e3.trans (e4.trans (e5.trans e')))) z' d' hr) hw⟩
theorem ef_call1 [Py γ] {P1 : Pm α} {f : α → W (List γ)} {c1 : W α} {c : W (List γ)} (h1 : Ev rs t1 σ Ho P1 c1) (hc : c = W.bind c1 f) : Ef K rs (tCall (Sf1 K P1 f) [] E (tCons t1 tNil)) σ Ho c := by
  subst hc
  intro H1 Ho1 e z Φ Q hw k
  refine h1 H1 Ho1 e z _ _ hw fun x v H2 Ho2 e2 z2 r2 hw => ?_
  exact ⟨rs, Ho2, v, x, rfl, z2, r2, W.mono _ _ _ (fun r hr p vs H' Ho' e' z' d' => k r p vs H' Ho' (e2.trans e') z' d' hr) hw⟩
theorem ef_call2 [Py γ] {P1 : Pm α} {P2 : Pm β} [Mo P1] {f : α → β → W (List γ)} {c1 : W α} {c2 : W β} {c : W (List γ)} (h1 : Ev rs t1 σ Ho P1 c1) (h2 : Ev rs t2 σ Ho P2 c2) (hc : c = W.bind c1 fun a => W.bind c2 fun b => f a b) : Ef K rs (tCall (Sf2 K P1 P2 f) [] E (tCons t1 (tCons t2 tNil))) σ Ho c := by
  subst hc
  intro H1 Ho1 e z Φ Q hw k
  refine h1 H1 Ho1 e z _ _ hw fun x v H2 Ho2 e2 z2 r2 hw => ?_
  refine h2 H2 Ho2 (e.trans e2) z2 _ _ hw fun y u H3 Ho3 e3 z3 r3 hw => ?_
  exact ⟨rs, Ho3, v, x, u, y, rfl, z3, Mo.mo r2 e3, r3, W.mono _ _ _ (fun r hr p vs H' Ho' e' z' d' => k r p vs H' Ho' (e2.trans (e3.trans e')) z' d' hr) hw⟩
theorem ef_call3 [Py δ] {P1 : Pm α} {P2 : Pm β} {P3 : Pm γ} [Mo P1] [Mo P2] {f : α → β → γ → W (List δ)} {c1 : W α} {c2 : W β} {c3 : W γ} {c : W (List δ)} (h1 : Ev rs t1 σ Ho P1 c1) (h2 : Ev rs t2 σ Ho P2 c2) (h3 : Ev rs t3 σ Ho P3 c3)
    (hc : c = W.bind c1 fun a => W.bind c2 fun b => W.bind c3 fun d => f a b d) : Ef K rs (tCall (Sf3 K P1 P2 P3 f) [] E (tCons t1 (tCons t2 (tCons t3 tNil)))) σ Ho c := by
  subst hc
  intro H1 Ho1 e z Φ Q hw k
  refine h1 H1 Ho1 e z _ _ hw fun x v H2 Ho2 e2 z2 r2 hw => ?_
  refine h2 H2 Ho2 (e.trans e2) z2 _ _ hw fun y u H3 Ho3 e3 z3 r3 hw => ?_
  refine h3 H3 Ho3 ((e.trans e2).trans e3) z3 _ _ hw fun t w H4 Ho4 e4 z4 r4 hw => ?_
  exact ⟨rs, Ho4, v, x, u, y, w, t, rfl, z4, Mo.mo (Mo.mo r2 e3) e4, Mo.mo r3 e4, r4, W.mono _ _ _ (fun r hr v' H' Ho' p' e' z' d' => k r v' H' Ho' p' (e2.trans (e3.trans (e4.trans e'))) z' d' hr) hw⟩
theorem ef_call4 [Py ε] {P1 : Pm α} {P2 : Pm β} {P3 : Pm γ} {P4 : Pm δ} [Mo P1] [Mo P2] [Mo P3] {f : α → β → γ → δ → W (List ε)} {c1 : W α} {c2 : W β} {c3 : W γ} {c4 : W δ} {c : W (List ε)} (h1 : Ev rs t1 σ Ho P1 c1) (h2 : Ev rs t2 σ Ho P2 c2) (h3 : Ev rs t3 σ Ho P3 c3) (h4 : Ev rs t4 σ Ho P4 c4)
    (hc : c = W.bind c1 fun a => W.bind c2 fun b => W.bind c3 fun d => W.bind c4 fun e => f a b d e) : Ef K rs (tCall (Sf4 K P1 P2 P3 P4 f) [] E (tCons t1 (tCons t2 (tCons t3 (tCons t4 tNil))))) σ Ho c := by
  subst hc
  intro H1 Ho1 e z Φ Q hw k
  refine h1 H1 Ho1 e z _ _ hw fun x v H2 Ho2 e2 z2 r2 hw => ?_
  refine h2 H2 Ho2 (e.trans e2) z2 _ _ hw fun y u H3 Ho3 e3 z3 r3 hw => ?_
  refine h3 H3 Ho3 ((e.trans e2).trans e3) z3 _ _ hw fun t w H4 Ho4 e4 z4 r4 hw => ?_
  refine h4 H4 Ho4 (((e.trans e2).trans e3).trans e4) z4 _ _ hw fun t' w' H5 Ho5 e5 z5 r5 hw => ?_
  exact ⟨rs, Ho5, v, x, u, y, w, t, w', t', rfl, z5, Mo.mo (Mo.mo (Mo.mo r2 e3) e4) e5, Mo.mo (Mo.mo r3 e4) e5, Mo.mo r4 e5, r5, W.mono _ _ _ (fun r hr v' H' Ho' p' e' z' d' => k r v' H' Ho' p' (e2.trans (e3.trans (e4.trans (e5.trans e')))) z' d' hr) hw⟩
/-! calls that write the caller's own list at p -/
variable [Py θ] {i : Nat}
theorem em_call1 [Py γ] {f c : List θ → W (γ × List θ)} (hi : σ[i]? = some (some (.ref p))) (hc : c = f) : Em K p rs (tCall (Sm1 K f) [] E (tCons (tVar i) tNil)) σ Ho c := by
  subst hc
  intro H1 Ho1 ws xs e z d Φ Q hw k
  exact ⟨_, hi, rs, Ho1, p, ws, xs, rfl, z, d, W.mono _ _ _ (fun r hr v ws' H' Ho' e' z' d' dv => k r.1 r.2 v ws' H' Ho' e' z' d' dv hr) hw⟩
theorem em_call2 [Py α] [Py γ] {f : List θ → α → W (γ × List θ)} {c1 : List θ → W (α × List θ)} {c : List θ → W (γ × List θ)} (hi : σ[i]? = some (some (.ref p))) (h1 : Em K p rs t1 σ Ho c1) (hc : c = fun s => W.bind2 (c1 s) fun a s1 => f s1 a) : Em K p rs (tCall (Sm2 K (PD K) f) [] E (tCons (tVar i) (tCons t1 tNil))) σ Ho c := by
  subst hc
  intro H1 Ho1 ws xs e z d Φ Q hw k
  refine ⟨_, hi, h1 H1 Ho1 ws xs e z d _ _ hw fun x s1 v w1 H2 Ho2 e2 z2 d2 r2 hw => ?_⟩
  exact ⟨rs, Ho2, p, w1, s1, v, x, rfl, z2, d2, r2, W.mono _ _ _ (fun r hr v ws' H' Ho' e' z' d' dv => k r.1 r.2 v ws' H' Ho' (e2.trans e') z' d' dv hr) hw⟩
theorem em_call3 [Py α] [Py β] [Py γ] {f : List θ → α → β → W (γ × List θ)} {c1 : List θ → W (α × List θ)} {c2 : List θ → W (β × List θ)} {c : List θ → W (γ × List θ)} (hi : σ[i]? = some (some (.ref p))) (h1 : Em K p rs t1 σ Ho c1) (h2 : Em K p rs t2 σ Ho c2)
    (hc : c = fun s => W.bind2 (c1 s) fun a s1 => W.bind2 (c2 s1) fun b s2 => f s2 a b) : Em K p rs (tCall (Sm3 K (PD K) (PD K) f) [] E (tCons (tVar i) (tCons t1 (tCons t2 tNil)))) σ Ho c := by
  subst hc
  intro H1 Ho1 ws xs e z d Φ Q hw k
  refine ⟨_, hi, h1 H1 Ho1 ws xs e z d _ _ hw fun x s1 v w1 H2 Ho2 e2 z2 d2 r2 hw => ?_⟩
  refine h2 H2 Ho2 w1 s1 (e.trans e2) z2 d2 _ _ hw fun y s2 u w2 H3 Ho3 e3 z3 d3 r3 hw => ?_
  exact ⟨rs, Ho3, p, w2, s2, v, x, u, y, rfl, z3, d3, D.mo r2 e3, r3, W.mono _ _ _ (fun r hr v ws' H' Ho' e' z' d' dv => k r.1 r.2 v ws' H' Ho' (e2.trans (e3.trans e')) z' d' dv hr) hw⟩
theorem emf_call1 [Py γ] {f c : List θ → W (List γ × List θ)} (hi : σ[i]? = some (some (.ref p))) (hc : c = f) : Emf K p rs (tCall (Smf1 K f) [] E (tCons (tVar i) tNil)) σ Ho c := by
  subst hc
  intro H1 Ho1 ws xs e z d Φ Q hw k
  exact ⟨_, hi, rs, Ho1, p, ws, xs, rfl, z, d, W.mono _ _ _ (fun r hr q us ws' H' Ho' e' z' d' dv => k r.1 r.2 q us ws' H' Ho' e' z' d' dv hr) hw⟩
theorem emf_call2 [Py α] [Py γ] {f : List θ → α → W (List γ × List θ)} {c1 : List θ → W (α × List θ)} {c : List θ → W (List γ × List θ)} (hi : σ[i]? = some (some (.ref p))) (h1 : Em K p rs t1 σ Ho c1) (hc : c = fun s => W.bind2 (c1 s) fun a s1 => f s1 a) : Emf K p rs (tCall (Smf2 K (PD K) f) [] E (tCons (tVar i) (tCons t1 tNil))) σ Ho c := by
  subst hc
  intro H1 Ho1 ws xs e z d Φ Q hw k
  refine ⟨_, hi, h1 H1 Ho1 ws xs e z d _ _ hw fun x s1 v w1 H2 Ho2 e2 z2 d2 r2 hw => ?_⟩
  exact ⟨rs, Ho2, p, w1, s1, v, x, rfl, z2, d2, r2, W.mono _ _ _ (fun r hr q us ws' H' Ho' e' z' d' dv => k r.1 r.2 q us ws' H' Ho' (e2.trans e') z' d' dv hr) hw⟩
theorem emf_call3 [Py α] [Py β] [Py γ] {f : List θ → α → β → W (List γ × List θ)} {c1 : List θ → W (α × List θ)} {c2 : List θ → W (β × List θ)} {c : List θ → W (List γ × List θ)} (hi : σ[i]? = some (some (.ref p))) (h1 : Em K p rs t1 σ Ho c1) (h2 : Em K p rs t2 σ Ho c2)
    (hc : c = fun s => W.bind2 (c1 s) fun a s1 => W.bind2 (c2 s1) fun b s2 => f s2 a b) : Emf K p rs (tCall (Smf3 K (PD K) (PD K) f) [] E (tCons (tVar i) (tCons t1 (tCons t2 tNil)))) σ Ho c := by
  subst hc
  intro H1 Ho1 ws xs e z d Φ Q hw k
  refine ⟨_, hi, h1 H1 Ho1 ws xs e z d _ _ hw fun x s1 v w1 H2 Ho2 e2 z2 d2 r2 hw => ?_⟩
  refine h2 H2 Ho2 w1 s1 (e.trans e2) z2 d2 _ _ hw fun y s2 u w2 H3 Ho3 e3 z3 d3 r3 hw => ?_
  exact ⟨rs, Ho3, p, w2, s2, v, x, u, y, rfl, z3, d3, D.mo r2 e3, r3, W.mono _ _ _ (fun r hr q us ws' H' Ho' e' z' d' dv => k r.1 r.2 q us ws' H' Ho' (e2.trans (e3.trans e')) z' d' dv hr) hw⟩
end

/-! ### statements -/
def apd {α : Type} (xs : List α) (x : α) : W (List α) := W.guard (xs.length < sizeLine) (W.ret (xs ++ [x]))
def sti {α : Type} (xs : List α) (i : Int) (y : α) : W (List α) := W.bind (W.opt (ixN xs.length i)) fun j => W.ret (xs.set j y)
theorem Zs.putI {rs : List (Addr × HO)} {H Ho : Hp} {n : Nat} {p : Addr} {o o' : HO} (z : Zs rs H Ho) (h : rs[n]? = some (p, o)) : Zs (rs.set n (p, o')) (upd H p o') Ho := by
  have hp := z.rt (p, o) (List.mem_of_getElem? h)
  have idx : ∀ m r, rs[m]? = some r → r.1 = p → m = n := fun m r hm e => by
    have h1 : (rs.map (·.1))[m]? = some p := by rw [List.getElem?_map, hm]; exact congrArg some e
    have h2 : (rs.map (·.1))[n]? = some p := by rw [List.getElem?_map, h]; rfl
    exact nd_ix z.nd h1 h2
  refine ⟨fun b x e => ?_, fun r hr => ?_, ?_⟩
  · have np : b ≠ p := fun e' => by subst e'; rw [hp.2] at e; cases e
    rw [upd_ne np]; exact z.le b x e
  · obtain ⟨m, hm⟩ := List.mem_iff_getElem?.mp hr
    rw [List.getElem?_set] at hm
    by_cases c : n = m
    · rw [if_pos c] at hm
      split at hm
      · cases hm; exact ⟨upd_same, hp.2⟩
      · cases hm
    · rw [if_neg c] at hm
      have np : r.1 ≠ p := fun e => c (idx m r hm e).symm
      rw [upd_ne np]; exact z.rt r (List.mem_of_getElem? hm)
  · have e : (rs.set n (p, o')).map (·.1) = rs.map (·.1) := by
      rw [List.map_set]
      apply List.ext_getElem?
      intro m
      rw [List.getElem?_set]
      split
      · rename_i c
        subst c
        rw [List.getElem?_map, h]
        have hl : n < (rs.map (·.1)).length := by rw [List.length_map]; exact (List.getElem?_eq_some_iff.mp h).1
        rw [if_pos hl]; rfl
      · rfl
    rw [e]; exact z.nd
section
variable {K : PySem.W.Frag} {rs r0 : List (Addr × HO)} {σ : L2.St} {H Ho : Hp} {ta tb tc te ti : TE} {tt : TT} {α β γ θ : Type} [Py α] [Py β] {p : Addr} {Φ : γ → Prop} {u : TS} {D : Ends} {i j n : Nat} {ws : List V}
theorem q_set {P : Pm β} {c : W β} {f : β → W γ} (σ' : V → L2.St) (z : Zs rs H Ho) (hw : (W.bind c f).run Φ) (he : Ev rs te σ Ho P c) (hσ : ∀ v, σ.set i (some v) = σ' v) (k : ∀ x v H' Ho', Same Ho Ho' → Zs rs H' Ho' → P rs Ho' v x → (f x).run Φ → u D (σ' v) H') : tSeq (tAsg te (gName i)) u D σ H :=
  he H Ho (Same.refl _) z _ _ hw fun x v H' Ho' e z' r hw => by
    show u D (σ.set i (some v)) H'
    rw [hσ]
    exact k x v H' Ho' e z' r hw
theorem q_setF {c : W (List α)} {f : List α → W γ} (σ' : V → L2.St) (z : Zs rs H Ho) (hw : (W.bind c f).run Φ) (he : Ef K rs te σ Ho c) (hσ : ∀ v, σ.set i (some v) = σ' v) (k : ∀ x p vs H' Ho', Same Ho Ho' → Zs ((p, .lst vs) :: rs) H' Ho' → DL K Ho' vs x → (f x).run Φ → u D (σ' (.ref p)) H') : tSeq (tAsg te (gName i)) u D σ H :=
  he H Ho (Same.refl _) z _ _ hw fun x p vs H' Ho' e z' r hw => by
    show u D (σ.set i (some (.ref p))) H'
    rw [hσ]
    exact k x p vs H' Ho' e z' r hw
theorem q_setM [Py θ] {xs : List θ} {c : List θ → W (β × List θ)} {f : β → List θ → W γ} (σ' : V → L2.St) (z : Zs ((p, .lst ws) :: rs) H Ho) (d : DL K Ho ws xs) (hw : (W.bind2 (c xs) f).run Φ) (he : Em K p rs te σ Ho c) (hσ : ∀ v, σ.set i (some v) = σ' v)
    (k : ∀ x xs' v ws' H' Ho', Same Ho Ho' → Zs ((p, .lst ws') :: rs) H' Ho' → DL K Ho' ws' xs' → Z.D K Ho' v x → (f x xs').run Φ → u D (σ' v) H') : tSeq (tAsg te (gName i)) u D σ H :=
  he H Ho ws xs (Same.refl _) z d _ _ hw fun x xs' v ws' H' Ho' e z' d' r hw => by
    show u D (σ.set i (some v)) H'
    rw [hσ]
    exact k x xs' v ws' H' Ho' e z' d' r hw
theorem q_setMF [Py θ] {xs : List θ} {c : List θ → W (List β × List θ)} {f : List β → List θ → W γ} (σ' : V → L2.St) (z : Zs ((p, .lst ws) :: rs) H Ho) (d : DL K Ho ws xs) (hw : (W.bind2 (c xs) f).run Φ) (he : Emf K p rs te σ Ho c) (hσ : ∀ v, σ.set i (some v) = σ' v)
    (k : ∀ x xs' q vs ws' H' Ho', Same Ho Ho' → Zs ((p, .lst ws') :: (q, .lst vs) :: rs) H' Ho' → DL K Ho' ws' xs' → DL K Ho' vs x → (f x xs').run Φ → u D (σ' (.ref q)) H') : tSeq (tAsg te (gName i)) u D σ H :=
  he H Ho ws xs (Same.refl _) z d _ _ hw fun x xs' q vs ws' H' Ho' e z' d' r hw => by
    show u D (σ.set i (some (.ref q))) H'
    rw [hσ]
    exact k x xs' q vs ws' H' Ho' e z'.sw1 d' r hw
theorem q_ret {P : Pm β} {c : W β} {f : β → W γ} (z : Zs rs H Ho) (hw : (W.bind c f).run Φ) (he : Ev rs te σ Ho P c) (k : ∀ x v H' Ho', Same Ho Ho' → Zs rs H' Ho' → P rs Ho' v x → (f x).run Φ → D.rt v H') : tSeq (tRet te) u D σ H :=
  he H Ho (Same.refl _) z _ _ hw k
theorem q_retF {c : W (List α)} {f : List α → W γ} (z : Zs rs H Ho) (hw : (W.bind c f).run Φ) (he : Ef K rs te σ Ho c) (k : ∀ x p vs H' Ho', Same Ho Ho' → Zs ((p, .lst vs) :: rs) H' Ho' → DL K Ho' vs x → (f x).run Φ → D.rt (.ref p) H') : tSeq (tRet te) u D σ H :=
  he H Ho (Same.refl _) z _ _ hw k
theorem q_retM [Py θ] {xs : List θ} {c : List θ → W (β × List θ)} {f : β → List θ → W γ} (z : Zs ((p, .lst ws) :: rs) H Ho) (d : DL K Ho ws xs) (hw : (W.bind2 (c xs) f).run Φ) (he : Em K p rs te σ Ho c)
    (k : ∀ x xs' v ws' H' Ho', Same Ho Ho' → Zs ((p, .lst ws') :: rs) H' Ho' → DL K Ho' ws' xs' → Z.D K Ho' v x → (f x xs').run Φ → D.rt v H') : tSeq (tRet te) u D σ H :=
  he H Ho ws xs (Same.refl _) z d _ _ hw k
theorem q_retMF [Py θ] {xs : List θ} {c : List θ → W (List β × List θ)} {f : List β → List θ → W γ} (z : Zs ((p, .lst ws) :: rs) H Ho) (d : DL K Ho ws xs) (hw : (W.bind2 (c xs) f).run Φ) (he : Emf K p rs te σ Ho c)
    (k : ∀ x xs' q vs ws' H' Ho', Same Ho Ho' → Zs ((q, .lst vs) :: (p, .lst ws') :: rs) H' Ho' → DL K Ho' ws' xs' → DL K Ho' vs x → (f x xs').run Φ → D.rt (.ref q) H') : tSeq (tRet te) u D σ H :=
  he H Ho ws xs (Same.refl _) z d _ _ hw k
theorem q_retN {f : Unit → W γ} (hw : (W.bind (W.ret ()) f).run Φ) (k : (f ()).run Φ → D.rt .non H) : tSeq tRetN u D σ H := k hw
theorem q_drop {P : Pm β} {c : W β} {f : β → W γ} (z : Zs rs H Ho) (hw : (W.bind c f).run Φ) (he : Ev rs te σ Ho P c) (k : ∀ x v H' Ho', Same Ho Ho' → Zs rs H' Ho' → P rs Ho' v x → (f x).run Φ → u D σ H') : tSeq (tDrop te) u D σ H :=
  he H Ho (Same.refl _) z _ _ hw k
theorem q_dropM [Py θ] {xs : List θ} {c : List θ → W (β × List θ)} {f : β → List θ → W γ} (z : Zs ((p, .lst ws) :: rs) H Ho) (d : DL K Ho ws xs) (hw : (W.bind2 (c xs) f).run Φ) (he : Em K p rs te σ Ho c)
    (k : ∀ x xs' v ws' H' Ho', Same Ho Ho' → Zs ((p, .lst ws') :: rs) H' Ho' → DL K Ho' ws' xs' → Z.D K Ho' v x → (f x xs').run Φ → u D σ H') : tSeq (tDrop te) u D σ H :=
  he H Ho ws xs (Same.refl _) z d _ _ hw k
theorem q_doc (k : u D σ H) : tSeq tNext u D σ H := k
/-- p.append(e) -/
theorem q_app {xs : List α} {c : W α} {f : List α → W γ} (z : Zs rs H Ho) (d : DL K Ho ws xs) (hn : rs[n]? = some (p, .lst ws)) (hw : (W.bind c fun x => W.bind (apd xs x) f).run Φ) (he : Ev rs te σ Ho (PD K) c) (hi : σ[i]? = some (some (.ref p)))
    (k : ∀ xs' ws' H' Ho', Same Ho Ho' → Zs (rs.set n (p, .lst ws')) H' Ho' → DL K Ho' ws' xs' → (f xs').run Φ → u D σ H') : tSeq (tDrop (tBM K "list" rAppend (tVar i) (tCons te tNil))) u D σ H := by
  have hp := z.rt _ (List.mem_of_getElem? hn)
  refine ⟨_, hi, .inl ⟨rfl, _, SqL.of hp.1⟩, he H Ho (Same.refl _) z _ _ hw fun x v H' Ho' e z' r hw => ?_⟩
  have hp' := z'.rt _ (List.mem_of_getElem? hn)
  refine ⟨p, ws, v, rfl, rfl, hp'.1, by rw [DL.len d]; exact hw.1, ?_⟩
  exact k _ _ _ Ho' e (z'.putI hn) ((DL.mo d e).push r) hw.2
theorem q_appM [Py θ] {p0 : Addr} {w0 : List V} {s0 : List θ} {xs : List α} {c : List θ → W (α × List θ)} {f : List α → List θ → W γ} (z : Zs ((p0, .lst w0) :: rs) H Ho) (d0 : DL K Ho w0 s0) (d : DL K Ho ws xs) (hn : rs[n]? = some (p, .lst ws))
    (hw : (W.bind2 (c s0) fun x s1 => W.bind (apd xs x) fun ys => f ys s1).run Φ) (he : Em K p0 rs te σ Ho c) (hi : σ[i]? = some (some (.ref p)))
    (k : ∀ xs' s' ws' w0' H' Ho', Same Ho Ho' → Zs ((p0, .lst w0') :: rs.set n (p, .lst ws')) H' Ho' → DL K Ho' w0' s' → DL K Ho' ws' xs' → (f xs' s').run Φ → u D σ H') : tSeq (tDrop (tBM K "list" rAppend (tVar i) (tCons te tNil))) u D σ H := by
  have hp := z.rt _ (List.mem_cons_of_mem _ (List.mem_of_getElem? hn))
  refine ⟨_, hi, .inl ⟨rfl, _, SqL.of hp.1⟩, he H Ho w0 s0 (Same.refl _) z d0 _ _ hw fun x s1 v w1 H' Ho' e z' d1 r hw => ?_⟩
  have hp' := z'.rt _ (List.mem_cons_of_mem _ (List.mem_of_getElem? hn))
  refine ⟨p, ws, v, rfl, rfl, hp'.1, by rw [DL.len d]; exact hw.1, ?_⟩
  exact k _ s1 _ w1 _ Ho' e (z'.putI (n := n + 1) (by simpa using hn)) d1 ((DL.mo d e).push r) hw.2
/-- p[i] = e -/
theorem q_sti {xs : List α} {c : W α} {ci : W Int} {f : List α → W γ} (z : Zs rs H Ho) (d : DL K Ho ws xs) (hn : rs[n]? = some (p, .lst ws)) (hw : (W.bind c fun y => W.bind ci fun i => W.bind (sti xs i y) f).run Φ) (he : Ev rs te σ Ho (PD K) c) (hi : σ[i]? = some (some (.ref p))) (hx : Ev rs ti σ Ho (PD K) ci)
    (k : ∀ xs' ws' H' Ho', Same Ho Ho' → Zs (rs.set n (p, .lst ws')) H' Ho' → DL K Ho' ws' xs' → (f xs').run Φ → u D σ H') : tSeq (tAsg te (gSub (tVar i) ti rSetL)) u D σ H := by
  refine he H Ho (Same.refl _) z _ _ hw fun x v H' Ho' e z' r hw => ?_
  refine ⟨_, hi, hx H' Ho' e z' _ _ hw fun y w H2 Ho2 e2 z2 r2 hw => ?_⟩
  have hp' := z2.rt _ (List.mem_of_getElem? hn)
  obtain ⟨j, ej, hw⟩ := hw
  rw [d_int r2]
  exact ⟨p, ws, y, j, rfl, rfl, hp'.1, by rw [DL.len d]; exact ej, k _ _ _ Ho2 (e.trans e2) (z2.putI hn) (DL.set (DL.mo (DL.mo d e) e2) (Z.D.mo r e2) j) hw⟩
theorem q_augi {xs : List Int} {c ci : W Int} {f : List Int → W γ} (z : Zs rs H Ho) (d : DL K Ho ws xs) (hn : rs[n]? = some (p, .lst ws))
    (hw : (W.bind ci fun i => W.bind (W.opt (atI xs i)) fun old => W.bind c fun y => W.bind (sti xs i (old + y)) f).run Φ) (he : Ev rs te σ Ho (PD K) c) (hi : σ[i]? = some (some (.ref p))) (hx : Ev rs ti σ Ho (PD K) ci)
    (k : ∀ xs' ws' H' Ho', Same Ho Ho' → Zs (rs.set n (p, .lst ws')) H' Ho' → DL K Ho' ws' xs' → (f xs').run Φ → u D σ H') : tSeq (tAugS (tVar i) ti te (rIxL K) (ipI fun i j => i + j) rSetL) u D σ H := by
  refine ⟨_, hi, hx H Ho (Same.refl _) z _ _ hw fun y w H2 Ho2 e2 z2 r2 hw => ?_⟩
  obtain ⟨a, ea, hw⟩ := hw
  obtain ⟨b, eb, db⟩ := DL.at (DL.mo d e2) ea
  rw [d_int r2]
  have hp' := z2.rt _ (List.mem_of_getElem? hn)
  refine ⟨p, ws, y, b, rfl, rfl, SqL.of hp'.1, eb, he H2 Ho2 e2 z2 _ _ hw fun x v H3 Ho3 e3 z3 r3 hw => ?_⟩
  rw [d_int r3, d_int db]
  refine ⟨a, x, rfl, rfl, ?_⟩
  obtain ⟨j, ej, hw⟩ := hw
  have hp3 := z3.rt _ (List.mem_of_getElem? hn)
  exact ⟨p, ws, y, j, rfl, rfl, hp3.1, by rw [DL.len d]; exact ej, k _ _ _ Ho3 (e2.trans e3) (z3.putI hn) (DL.set (DL.mo (DL.mo d e2) e3) (.int _) j) hw⟩
/-- x += e -/
theorem q_aug {x : Int} {c : W Int} {f : Int → W γ} (σ' : V → L2.St) (z : Zs rs H Ho) (hw : (W.bind c fun y => W.bind (W.ret (x + y)) f).run Φ) (hi : σ[i]? = some (some (.int x))) (he : Ev rs te σ Ho (PD K) c) (hσ : ∀ v, σ.set i (some v) = σ' v)
    (k : ∀ y H' Ho', Same Ho Ho' → Zs rs H' Ho' → (f y).run Φ → u D (σ' (.int y)) H') : tSeq (tAug i te (ipI fun i j => i + j)) u D σ H := by
  refine ⟨_, hi, he H Ho (Same.refl _) z _ _ hw fun y v H' Ho' e z' r hw => ?_⟩
  rw [d_int r]
  refine ⟨x, y, rfl, rfl, ?_⟩
  show u D (σ.set i (some (.int (x + y)))) H'
  rw [hσ]
  exact k _ H' Ho' e z' hw
/-! ifs -/
variable {t1 t2 : TS} {ct : W Bool}
theorem q_if {A B : W γ} (z : Zs rs H Ho) (hw : (W.bind ct fun b => W.ite b A B).run Φ) (he : Et rs tt σ Ho ct) (k1 : ∀ H' Ho', Same Ho Ho' → Zs rs H' Ho' → A.run Φ → t1 { D with nx := u D } σ H') (k2 : ∀ H' Ho', Same Ho Ho' → Zs rs H' Ho' → B.run Φ → t2 { D with nx := u D } σ H') : tSeq (tIfS tt t1 t2) u D σ H :=
  he H Ho (Same.refl _) z _ _ hw fun b H' Ho' e z' hw => by
    cases b with
    | true => exact iteT (k1 H' Ho' e z' (hw.1 rfl))
    | false => exact iteF (k2 H' Ho' e z' (hw.2 rfl))
theorem q_ifM [Py θ] {xs : List θ} {c : List θ → W (Bool × List θ)} {A B : List θ → W γ} (z : Zs ((p, .lst ws) :: rs) H Ho) (d : DL K Ho ws xs) (hw : (W.bind2 (c xs) fun b s => W.ite b (A s) (B s)).run Φ) (he : Emt K p rs tt σ Ho c)
    (k1 : ∀ s ws' H' Ho', Same Ho Ho' → Zs ((p, .lst ws') :: rs) H' Ho' → DL K Ho' ws' s → (A s).run Φ → t1 { D with nx := u D } σ H') (k2 : ∀ s ws' H' Ho', Same Ho Ho' → Zs ((p, .lst ws') :: rs) H' Ho' → DL K Ho' ws' s → (B s).run Φ → t2 { D with nx := u D } σ H') : tSeq (tIfS tt t1 t2) u D σ H :=
  he H Ho ws xs (Same.refl _) z d _ _ hw fun b s ws' H' Ho' e z' d' hw => by
    cases b with
    | true => exact iteT (k1 s ws' H' Ho' e z' d' (hw.1 rfl))
    | false => exact iteF (k2 s ws' H' Ho' e z' d' (hw.2 rfl))
/-- both ways meet again: J says where -/
theorem q_ifJ {S : Type} {A B : W S} {f : S → W γ} (z : Zs rs H Ho) (hw : (W.bind ct fun b => W.bind (W.ite b A B) f).run Φ) (J : S → L2.St → Hp → Hp → Prop) (he : Et rs tt σ Ho ct)
    (k1 : ∀ H' Ho' (N : L2.St → Hp → Prop), Same Ho Ho' → Zs rs H' Ho' → A.run (fun s => ∀ σ' H'' Ho'', Same Ho' Ho'' → J s σ' H'' Ho'' → N σ' H'') → t1 { D with nx := N } σ H')
    (k2 : ∀ H' Ho' (N : L2.St → Hp → Prop), Same Ho Ho' → Zs rs H' Ho' → B.run (fun s => ∀ σ' H'' Ho'', Same Ho' Ho'' → J s σ' H'' Ho'' → N σ' H'') → t2 { D with nx := N } σ H')
    (k : ∀ s σ' H' Ho', Same Ho Ho' → J s σ' H' Ho' → (f s).run Φ → u D σ' H') : tSeq (tIfS tt t1 t2) u D σ H :=
  he H Ho (Same.refl _) z _ _ hw fun b H' Ho' e z' hw => by
    cases b with
    | true => exact iteT (k1 H' Ho' (u D) e z' (W.mono _ _ _ (fun s hs σ' H'' Ho'' e'' j => k s σ' H'' Ho'' (e.trans e'') j hs) (hw.1 rfl)))
    | false => exact iteF (k2 H' Ho' (u D) e z' (W.mono _ _ _ (fun s hs σ' H'' Ho'' e'' j => k s σ' H'' Ho'' (e.trans e'') j hs) (hw.2 rfl)))
theorem q_ifJM {S : Type} [Py θ] {xs : List θ} {c : List θ → W (Bool × List θ)} {A B : List θ → W S} {f : S → W γ} (z : Zs ((p, .lst ws) :: rs) H Ho) (d : DL K Ho ws xs) (hw : (W.bind2 (c xs) fun b s => W.bind (W.ite b (A s) (B s)) f).run Φ) (J : S → L2.St → Hp → Hp → Prop) (he : Emt K p rs tt σ Ho c)
    (k1 : ∀ s ws' H' Ho' (N : L2.St → Hp → Prop), Same Ho Ho' → Zs ((p, .lst ws') :: rs) H' Ho' → DL K Ho' ws' s → (A s).run (fun s => ∀ σ' H'' Ho'', Same Ho' Ho'' → J s σ' H'' Ho'' → N σ' H'') → t1 { D with nx := N } σ H')
    (k2 : ∀ s ws' H' Ho' (N : L2.St → Hp → Prop), Same Ho Ho' → Zs ((p, .lst ws') :: rs) H' Ho' → DL K Ho' ws' s → (B s).run (fun s => ∀ σ' H'' Ho'', Same Ho' Ho'' → J s σ' H'' Ho'' → N σ' H'') → t2 { D with nx := N } σ H')
    (k : ∀ s σ' H' Ho', Same Ho Ho' → J s σ' H' Ho' → (f s).run Φ → u D σ' H') : tSeq (tIfS tt t1 t2) u D σ H :=
  he H Ho ws xs (Same.refl _) z d _ _ hw fun b s ws' H' Ho' e z' d' hw => by
    cases b with
    | true => exact iteT (k1 s ws' H' Ho' (u D) e z' d' (W.mono _ _ _ (fun s hs σ' H'' Ho'' e'' j => k s σ' H'' Ho'' (e.trans e'') j hs) (hw.1 rfl)))
    | false => exact iteF (k2 s ws' H' Ho' (u D) e z' d' (W.mono _ _ _ (fun s hs σ' H'' Ho'' e'' j => k s σ' H'' Ho'' (e.trans e'') j hs) (hw.2 rfl)))
/-! loops -/
variable {wi : TI} {g : TG} {tb : TS}
theorem q_forL {S : Type} {body : α → S → W S} {f : S → W γ} {G : List α → Hp → Hp → Prop} (hs : Src K r0 wi σ H Ho G) (I : S → L2.St → Hp → Hp → Prop)
    (h0 : ∀ xs H2 Ho2, Same Ho Ho2 → G xs H2 Ho2 → ∃ s0, (W.bind (W.forL xs s0 body) f).run Φ ∧ I s0 σ H2 Ho2)
    (hz : ∀ s σ' H' Ho', I s σ' H' Ho' → ∃ rs', Zs rs' H' Ho' ∧ ∀ r ∈ r0, r ∈ rs')
    (im : ∀ s σ' H' Ho' H'' Ho'', I s σ' H' Ho' → Same Ho' Ho'' → (∀ rs, Zs rs H' Ho' → Zs rs H'' Ho'') → I s σ' H'' Ho'')
    (step : ∀ a x s σ' H' Ho' (N : L2.St → Hp → Prop), Same Ho Ho' → I s σ' H' Ho' → Z.D K Ho' x a → (body a s).run (fun s' => ∀ σ'' H'' Ho'', Same Ho' Ho'' → I s' σ'' H'' Ho'' → N σ'' H'') → g x σ' H' fun σ2 H2 => tb { D with nx := N, ct := N, bk := u D } σ2 H2)
    (done : ∀ s σ' H' Ho', Same Ho Ho' → I s σ' H' Ho' → (f s).run Φ → u D σ' H') : tSeq (tFor wi g tb) u D σ H := by
  refine hs _ fun xs J H2 Ho2 e2 hG T => ?_
  obtain ⟨s0, hw, i0⟩ := h0 xs H2 Ho2 e2 hG
  refine ⟨fun i m σ' H' => m = xs.length - i ∧ i ≤ xs.length ∧ ∃ s Ho', Same Ho2 Ho' ∧ I s σ' H' Ho' ∧ (W.bind (W.forL (xs.drop i) s body) f).run Φ, ⟨xs.length, by simp, Nat.zero_le _, s0, Ho2, Same.refl _, i0, hw⟩, ?_⟩
  rintro i m σ' H' ⟨rfl, hi, s, Ho', e', hI, hw⟩
  obtain ⟨rs', z', sub⟩ := hz s σ' H' Ho' hI
  have tr := T i rs' H' Ho' e' z' sub
  by_cases hlt : i < xs.length
  · refine .inr ?_
    have hxi := List.getElem?_eq_getElem hlt
    obtain ⟨go, yl⟩ := tr.1 _ hxi
    rw [drop_cons hxi] at hw
    refine ⟨go, fun σ'' H'' => ∃ s' Ho'', Same Ho2 Ho'' ∧ I s' σ'' H'' Ho'' ∧ (W.bind (W.forL (xs.drop (i + 1)) s' body) f).run Φ, fun σ'' H'' hN => ⟨xs.length - (i + 1), by omega, rfl, hlt, hN⟩, fun x H'' y => ?_⟩
    obtain ⟨Ho3, e3, z3, dx⟩ := yl x H'' y
    refine step _ x s σ' H'' Ho3 _ ((e2.trans e').trans e3) (im _ _ _ _ _ _ hI e3 z3) dx ?_
    exact W.mono _ _ _ (fun s' hs' σ4 H4 Ho4 e4 hI4 => ⟨s', Ho4, (e'.trans e3).trans e4, hI4, hs'⟩) (show (body xs[i] s).run (fun s' => (W.bind (W.forL (xs.drop (i + 1)) s' body) f).run Φ) from hw)
  · have e : i = xs.length := by omega
    subst e
    rw [List.drop_length] at hw
    exact .inl ⟨tr.2 (Nat.le_refl _), done s σ' H' Ho' (e2.trans e') hI hw⟩
theorem q_forC {S ρ : Type} {body : α → S → W (Ctl ρ S)} {f : S → W ρ} {Φ : ρ → Prop} {G : List α → Hp → Hp → Prop} (hs : Src K r0 wi σ H Ho G) (I : S → L2.St → Hp → Hp → Prop)
    (h0 : ∀ xs H2 Ho2, Same Ho Ho2 → G xs H2 Ho2 → ∃ s0, (W.bind (W.forC xs s0 body) fun c => W.after c f).run Φ ∧ I s0 σ H2 Ho2)
    (hz : ∀ s σ' H' Ho', I s σ' H' Ho' → ∃ rs', Zs rs' H' Ho' ∧ ∀ r ∈ r0, r ∈ rs')
    (im : ∀ s σ' H' Ho' H'' Ho'', I s σ' H' Ho' → Same Ho' Ho'' → (∀ rs, Zs rs H' Ho' → Zs rs H'' Ho'') → I s σ' H'' Ho'')
    (step : ∀ a x s σ' H' Ho' (N B : L2.St → Hp → Prop), Same Ho Ho' → I s σ' H' Ho' → Z.D K Ho' x a → (body a s).run (CtlP (fun s' => ∀ σ'' H'' Ho'', Same Ho' Ho'' → I s' σ'' H'' Ho'' → N σ'' H'') (fun s' => ∀ σ'' H'' Ho'', Same Ho' Ho'' → I s' σ'' H'' Ho'' → B σ'' H'') Φ) → g x σ' H' fun σ2 H2 => tb { D with nx := N, ct := N, bk := B } σ2 H2)
    (done : ∀ s σ' H' Ho', Same Ho Ho' → I s σ' H' Ho' → (f s).run Φ → u D σ' H') : tSeq (tFor wi g tb) u D σ H := by
  refine hs _ fun xs J H2 Ho2 e2 hG T => ?_
  obtain ⟨s0, hw, i0⟩ := h0 xs H2 Ho2 e2 hG
  refine ⟨fun i m σ' H' => m = xs.length - i ∧ i ≤ xs.length ∧ ∃ s Ho', Same Ho2 Ho' ∧ I s σ' H' Ho' ∧ (W.bind (W.forC (xs.drop i) s body) fun c => W.after c f).run Φ, ⟨xs.length, by simp, Nat.zero_le _, s0, Ho2, Same.refl _, i0, hw⟩, ?_⟩
  rintro i m σ' H' ⟨rfl, hi, s, Ho', e', hI, hw⟩
  obtain ⟨rs', z', sub⟩ := hz s σ' H' Ho' hI
  have tr := T i rs' H' Ho' e' z' sub
  by_cases hlt : i < xs.length
  · refine .inr ?_
    have hxi := List.getElem?_eq_getElem hlt
    obtain ⟨go, yl⟩ := tr.1 _ hxi
    rw [drop_cons hxi] at hw
    refine ⟨go, fun σ'' H'' => ∃ s' Ho'', Same Ho2 Ho'' ∧ I s' σ'' H'' Ho'' ∧ (W.bind (W.forC (xs.drop (i + 1)) s' body) fun c => W.after c f).run Φ, fun σ'' H'' hN => ⟨xs.length - (i + 1), by omega, rfl, hlt, hN⟩, fun x H'' y => ?_⟩
    obtain ⟨Ho3, e3, z3, dx⟩ := yl x H'' y
    refine step _ x s σ' H'' Ho3 _ (u D) ((e2.trans e').trans e3) (im _ _ _ _ _ _ hI e3 z3) dx ?_
    refine W.mono _ _ _ (fun c hc => ?_) (show (body xs[i] s).run _ from hw)
    cases c with
    | nx s' => exact fun σ4 H4 Ho4 e4 hI4 => ⟨s', Ho4, (e'.trans e3).trans e4, hI4, hc⟩
    | bk s' => exact fun σ4 H4 Ho4 e4 hI4 => done s' σ4 H4 Ho4 (((e2.trans e').trans e3).trans e4) hI4 hc
    | rt r => exact hc
  · have e : i = xs.length := by omega
    subst e
    rw [List.drop_length] at hw
    exact .inl ⟨tr.2 (Nat.le_refl _), done s σ' H' Ho' (e2.trans e') hI hw⟩
end

/-! ### more words -/
section
variable {K : PySem.W.Frag} {rs r0 : List (Addr × HO)} {σ : L2.St} {H Ho : Hp} {ta tb tc te ti : TE} {α β γ θ : Type} [Py α] [Py β] {p : Addr} {i : Nat}
theorem ev_i {x : Int} {c : W Int} (h : σ[i]? = some (some (.int x))) (hc : c = W.ret x) : Ev rs (tVar i) σ Ho (PD K) c := ev_var (.int x) h hc
theorem ev_b {x : Bool} {c : W Bool} (h : σ[i]? = some (some (.bl x))) (hc : c = W.ret x) : Ev rs (tVar i) σ Ho (PD K) c := ev_var (.bl x) h hc
theorem ev_s {x : Str} {c : W Str} (h : σ[i]? = some (some (.str x))) (hc : c = W.ret x) : Ev rs (tVar i) σ Ho (PD K) c := ev_var (.str x) h hc
theorem sub1 {a : Addr × HO} : ∀ r ∈ rs, r ∈ a :: rs := fun _ m => List.mem_cons_of_mem _ m
theorem sub2 {a b : Addr × HO} : ∀ r ∈ rs, r ∈ a :: b :: rs := fun _ m => List.mem_cons_of_mem _ (List.mem_cons_of_mem _ m)
theorem sub3 {a b c : Addr × HO} : ∀ r ∈ rs, r ∈ a :: b :: c :: rs := fun _ m => List.mem_cons_of_mem _ (List.mem_cons_of_mem _ (List.mem_cons_of_mem _ m))
theorem sub4 {a b c d : Addr × HO} : ∀ r ∈ rs, r ∈ a :: b :: c :: d :: rs := fun _ m => List.mem_cons_of_mem _ (List.mem_cons_of_mem _ (List.mem_cons_of_mem _ (List.mem_cons_of_mem _ m)))
theorem sub5 {a b c d e : Addr × HO} : ∀ r ∈ rs, r ∈ a :: b :: c :: d :: e :: rs := fun _ m => List.mem_cons_of_mem _ (List.mem_cons_of_mem _ (List.mem_cons_of_mem _ (List.mem_cons_of_mem _ (List.mem_cons_of_mem _ m))))
def subN (n : Nat) {xs : List (Addr × HO)} (h : xs.drop n = rs) : ∀ r ∈ rs, r ∈ xs := fun r m => List.mem_of_mem_drop (i := n) (h ▸ m)
theorem rt_mem {n : Nat} {a : Addr × HO} {xs : List (Addr × HO)} (h : xs[n]? = some a) : a ∈ xs := List.mem_of_getElem? h
/-- a list of one's own that is read -/
theorem ev_rt {n : Nat} {ws : List V} {xs : List α} {c : W (List α)} (d : DL K Ho ws xs) (hn : rs[n]? = some (p, .lst ws)) (h : σ[i]? = some (some (.ref p))) (hc : c = W.ret xs) : Ev rs (tVar i) σ Ho (PL K) c := ev_varL (lv_root d (rt_mem hn)) h hc
/-- a list of the caller's that is read -/
theorem ev_lp (n : Nat) {v : V} {xs : List α} {c : W (List α)} (d : LV K r0 Ho v xs) (hs : rs.drop n = r0) (h : σ[i]? = some (some v)) (hc : c = W.ret xs) : Ev rs (tVar i) σ Ho (PL K) c := ev_varL (d.sub (subN n hs)) h hc
/-- xs * k of a new list -/
theorem ef_rep {ca c : W (List α)} {cb : W Int} (ha : Ef K rs ta σ Ho ca) (hb : ∀ r, Ev (r :: rs) tb σ Ho (PD K) cb) (hc : c = W.bind ca fun xs => W.bind cb fun k => W.guard (-(2 ^ 63) ≤ k ∧ k < 2 ^ 63 ∧ xs.length * k.toNat ≤ sizeLine) (W.ret (List.replicate k.toNat xs).flatten)) : Ef K rs (tOp rRep ta tb) σ Ho c := by
  subst hc
  intro H1 Ho1 e z Φ Q hw k
  refine ha H1 Ho1 e z _ _ hw fun xs p vs H2 Ho2 e2 z2 d2 hw => ?_
  refine hb _ H2 Ho2 (e.trans e2) z2 _ _ hw fun y u H3 Ho3 e3 z3 r3 hw => ?_
  rw [d_int r3]
  refine ⟨p, y, vs, rfl, rfl, z3.head, hw.1.1, hw.1.2.1, by rw [DL.len d2]; exact hw.1.2.2, fun q hq => ?_⟩
  refine k _ q _ _ Ho3 (e2.trans e3) ((z3.root hq).sw1.tail) ?_ hw.2
  have d3 : DL K Ho3 vs xs := DL.mo d2 e3
  generalize y.toNat = n
  induction n with
  | zero => exact .nil
  | succ n ih =>
    rw [List.replicate_succ, List.flatten_cons, List.replicate_succ, List.flatten_cons]
    exact d3.append ih
end
/-- a def that stands at f under the name x -/
structure Cal (P : Program) (w : World) (K : PySem.W.Frag) (mg : Str → Option Value) (base : Heap) (CX : CXT) (x : Str) (ps : List Str) (k : Nat) (sp : Sp) (f : Addr) (fd : FuncData) : Prop where
  ok : FnOk P w K mg base CX k f fd ps sp
  g : mg x = some (.ref f)
  kp : PySem.W.keepIn K (.ref f) = true
  b : Binds K fd ps []

theorem Zs.sub {rs rs' : List (Addr × HO)} {H Ho : Hp} (z : Zs rs H Ho) (h : rs'.Sublist rs) : Zs rs' H Ho :=
  ⟨z.le, fun r hr => z.rt r (h.subset hr), (h.map _).nodup z.nd⟩
section
variable {K : PySem.W.Frag} {rs : List (Addr × HO)} {σ : L2.St} {H Ho : Hp} {α : Type} [Py α] {p : Addr}
theorem frz {ws : List V} {xs : List α} (z : Zs ((p, .lst ws) :: rs) H Ho) (d : DL K Ho ws xs) : ∃ Ho', Same Ho Ho' ∧ Zs rs H Ho' ∧ D K Ho' (.ref p) xs := by
  have e : Same Ho (upd Ho p (.lst ws)) := Same.new z.headN
  exact ⟨_, e, z.freeze, .lst (SqL.of upd_same) (DL.mo d e)⟩
theorem q_retv {u : TS} {D : Ends} {i : Nat} {v : V} (h : σ[i]? = some (some v)) (k : D.rt v H) : tSeq (tRet (tVar i)) u D σ H := ⟨v, h, k⟩
theorem q_nx {D : Ends} (k : D.nx σ H) : tNext D σ H := k
theorem run_ret {β : Type} {a : β} {Φ : β → Prop} (h : (W.ret a).run Φ) : Φ a := h
end

section
variable {K : PySem.W.Frag} {rs r0 : List (Addr × HO)} {σ : L2.St} {H Ho : Hp} {te : TE} {α β γ : Type} [Py α] [Py β] {Φ : γ → Prop}
/-- over a tuple of things of one kind -/
theorem trn_tup {q : Addr} {xs : List α} {ys : List V} (s : SqT K Ho q ys) (d : DL K Ho ys xs) : Trn K [] (Itt K q) xs Ho := by
  intro i rs' H' Ho' e z sub
  have sq : SqT K H' q ys := Same.sqT z.le (Same.sqT e s)
  refine ⟨fun a ha => ?_, fun hl => ⟨ys, sq, by rw [d.len]; exact hl⟩⟩
  obtain ⟨w, ew, dw⟩ := d.get ha
  refine ⟨⟨ys, w, sq, ew⟩, fun x H'' y => ?_⟩
  obtain ⟨rfl, y⟩ := y
  have ex : x = w := Option.some.inj ((y _ sq).symm.trans ew)
  subst ex
  exact ⟨Ho', Same.refl _, fun _ z => z, D.mo dw e⟩
theorem src_T {g : List α → W γ} {c : W β} (f : β → List α) (z : Zs rs H Ho) (hw : (W.bind c fun x => g (f x)).run Φ) (he : Ev rs te σ Ho (PD K) c) (hf : ∀ x : β, toPy x = .tuple ((f x).map Py.toPy)) : Src K [] (iTup K te) σ H Ho (fun xs H' Ho' => Zs rs H' Ho' ∧ (g xs).run Φ) := by
  intro R k
  refine he H Ho (Same.refl _) z _ _ hw fun x v H2 Ho2 e2 z2 d hw => ?_
  have d : Dp K Ho2 v (toPy x) := d
  rw [hf] at d
  cases d with
  | tup hs ha => exact ⟨_, rfl, ⟨_, Same.sqT z2.le hs⟩, k (f x) _ H2 Ho2 e2 ⟨z2, hw⟩ (trn_tup hs ha)⟩
theorem sx_T {c : W β} {c' : W (List α)} (f : β → List α) (he : Ev rs te σ Ho (PD K) c) (hf : ∀ x : β, toPy x = .tuple ((f x).map Py.toPy)) (hc : c' = W.bind c fun x => W.ret (f x)) : Sx K [] rs (iTup K te) σ Ho c' := by
  subst hc
  intro H1 Ho1 e z Φ hw
  exact src_T (g := fun xs => ⟨fun _ => Φ xs, fun _ _ _ h => h⟩) (γ := Unit) (Φ := fun _ => True) f z hw (fun H2 Ho2 e2 => he H2 Ho2 (e.trans e2)) hf
end

section
variable {K : PySem.W.Frag} {rs r0 : List (Addr × HO)} {σ : L2.St} {H Ho : Hp} {α β γ : Type} [Py α] [Py β] {Φ : γ → Prop} {u : TS} {D : Ends} {g : TG} {tb : TS} {i : Nat} {v : V} {xs : List α}
theorem q_forLV {S : Type} {s0 : S} {body : α → S → W S} {f : S → W γ} (z : Zs rs H Ho) (hw : (W.bind (W.forL xs s0 body) f).run Φ) (d : LV K r0 Ho v xs) (hv : σ[i]? = some (some v)) (hs : ∀ r ∈ r0, r ∈ rs) (I : S → L2.St → Hp → Hp → Prop)
    (i0 : I s0 σ H Ho)
    (hz : ∀ s σ' H' Ho', I s σ' H' Ho' → ∃ rs', Zs rs' H' Ho' ∧ ∀ r ∈ r0, r ∈ rs')
    (im : ∀ s σ' H' Ho' H'' Ho'', I s σ' H' Ho' → Same Ho' Ho'' → (∀ rs, Zs rs H' Ho' → Zs rs H'' Ho'') → I s σ' H'' Ho'')
    (step : ∀ a x s σ' H' Ho' (N : L2.St → Hp → Prop), Same Ho Ho' → I s σ' H' Ho' → Z.D K Ho' x a → (body a s).run (fun s' => ∀ σ'' H'' Ho'', Same Ho' Ho'' → I s' σ'' H'' Ho'' → N σ'' H'') → g x σ' H' fun σ2 H2 => tb { D with nx := N, ct := N, bk := u D } σ2 H2)
    (done : ∀ s σ' H' Ho', Same Ho Ho' → I s σ' H' Ho' → (f s).run Φ → u D σ' H') : tSeq (tFor (iList K (tVar i)) g tb) u D σ H :=
  q_forL (src_V z d hv hs) I (fun ys H2 Ho2 e2 ⟨ey, e3, e4⟩ => by subst ey e3 e4; exact ⟨s0, hw, i0⟩) hz im step done
theorem q_forCV {S ρ : Type} {s0 : S} {body : α → S → W (Ctl ρ S)} {f : S → W ρ} {Φ : ρ → Prop} (z : Zs rs H Ho) (hw : (W.bind (W.forC xs s0 body) fun c => W.after c f).run Φ) (d : LV K r0 Ho v xs) (hv : σ[i]? = some (some v)) (hs : ∀ r ∈ r0, r ∈ rs) (I : S → L2.St → Hp → Hp → Prop)
    (i0 : I s0 σ H Ho)
    (hz : ∀ s σ' H' Ho', I s σ' H' Ho' → ∃ rs', Zs rs' H' Ho' ∧ ∀ r ∈ r0, r ∈ rs')
    (im : ∀ s σ' H' Ho' H'' Ho'', I s σ' H' Ho' → Same Ho' Ho'' → (∀ rs, Zs rs H' Ho' → Zs rs H'' Ho'') → I s σ' H'' Ho'')
    (step : ∀ a x s σ' H' Ho' (N B : L2.St → Hp → Prop), Same Ho Ho' → I s σ' H' Ho' → Z.D K Ho' x a → (body a s).run (CtlP (fun s' => ∀ σ'' H'' Ho'', Same Ho' Ho'' → I s' σ'' H'' Ho'' → N σ'' H'') (fun s' => ∀ σ'' H'' Ho'', Same Ho' Ho'' → I s' σ'' H'' Ho'' → B σ'' H'') Φ) → g x σ' H' fun σ2 H2 => tb { D with nx := N, ct := N, bk := B } σ2 H2)
    (done : ∀ s σ' H' Ho', Same Ho Ho' → I s σ' H' Ho' → (f s).run Φ → u D σ' H') : tSeq (tFor (iList K (tVar i)) g tb) u D σ H :=
  q_forC (src_V z d hv hs) I (fun ys H2 Ho2 e2 ⟨ey, e3, e4⟩ => by subst ey e3 e4; exact ⟨s0, hw, i0⟩) hz im step done
end

/-! ### the machine's rules, the written part by its own letter -/
section
variable {X : Cx} {K : PySem.W.Frag}
theorem zix_list (hK : X.K = K) : IxR X (rIxL K) := hK ▸ ix_list
theorem zix_tup (hK : X.K = K) : IxR X (rIxT K) := hK ▸ ix_tup
theorem zget_list (hK : X.K = K) : PGet X (rIxL K) := hK ▸ get_list
theorem zsl_list (hK : X.K = K) : SlR X (rSlL K) := hK ▸ sl_list
theorem zop_catS (hK : X.K = K) : OpR X (binaryOp .Add) (rCatS K) := hK ▸ op_catS
theorem zop_eqD (hK : X.K = K) (hu : X.A.units + 64 < cLine) : OpR X (compareOp .Eq) (rEqD K) := hK ▸ op_eqD hu
theorem zop_neD (hK : X.K = K) (hu : X.A.units + 64 < cLine) : OpR X (compareOp .NotEq) (rNeD K) := hK ▸ op_neD hu
def rLenZ (K : PySem.W.Frag) : List V → Hp → VK → Prop := fun xs H Q => ∃ p ys, xs = [.ref p] ∧ (SqL K H p ys ∨ SqT K H p ys) ∧ Q (.int ys.length) H
def rListZ (K : PySem.W.Frag) : List V → Hp → VK → Prop := fun xs H Q => ∃ p ys, xs = [.ref p] ∧ (SqL K H p ys ∨ SqT K H p ys) ∧ ∀ l, H l = none → Q (.ref l) (upd H l (.lst ys))
theorem zlen (hK : X.K = K) : CallR X (.builtin "len") (rLenZ K) := hK ▸ call_len_seq
theorem zlist (hK : X.K = K) : CallR X (.type "list") (rListZ K) := hK ▸ call_list_of
theorem zisi (hK : X.K = K) : CallR X (.builtin "isinstance") (rIsi K) := hK ▸ call_isi
theorem zall (hK : X.K = K) (hc : X.calm = true) : CallR X (.builtin "all") (rAll K) := hK ▸ cr_all hc
theorem zany (hK : X.K = K) (hc : X.calm = true) : CallR X (.builtin "any") (rAny K) := hK ▸ cr_any hc
theorem zpi_list {tg l : Expr} {tl : TE} (hK : X.K = K) (hl : PE X l tl) : PI X tg l (iList K tl) := hK ▸ pi_list hl
theorem zpi_tup {tg l : Expr} {tl : TE} (hK : X.K = K) (hl : PE X l tl) : PI X tg l (iTup K tl) := hK ▸ pi_tup hl
theorem c_lenZ {α : Type} [Py α] : VC1 (rLenZ K) (PL (α := α) K) (PD K) (fun xs => W.ret (xs.length : Int)) := by
  intro rs x v H Ho z d1 Φ Q hw k
  obtain ⟨p, vs, rfl, d, s⟩ := LV.rd d1 z
  refine ⟨p, vs, rfl, .inl s, ?_⟩
  rw [d.len]
  exact k _ _ H Ho (Same.refl _) z (.int _) hw
theorem c_listZ {α : Type} [Py α] : VC1F K (rListZ K) (PL (α := α) K) (fun xs => W.ret xs) := by
  intro rs x v H Ho z d1 Φ Q hw k
  obtain ⟨p, vs, rfl, d, s⟩ := LV.rd d1 z
  exact ⟨p, vs, rfl, .inl s, fun q hq => k _ _ _ _ Ho (Same.refl _) (z.root hq) d hw⟩
end

theorem zpg_tup {X : Cx} {K : PySem.W.Frag} {es : List Expr} {k : Nat} {t : TGs} {n : Nat} {pos : Pos} (hK : X.K = K) (hc : X.calm = true) (h : PGs X es t)
    (hn : (assignEach es X.env).length = n := by rfl) (hst : (assignEach es X.env).findIdx? (·.1) = none := by rfl) : PG X (.Tuple es k pos) (gTup K n t) := hK ▸ pg_tup hc h hn hst
end Z

namespace Z
open PySem PySem.Spec PyProof.Rows L2

/-! ### what may raise -/
def ExP {α : Type} (N : α → Prop) (R : Er → Prop) : Ex α → Prop
  | .ok a => N a
  | .er e => R e
theorem exP_ok {α : Type} {N : α → Prop} {R : Er → Prop} {a : α} (h : ExP N R (.ok a)) : N a := h
theorem exP_er {α : Type} {N : α → Prop} {R : Er → Prop} {e : Er} (h : ExP N R (.er e)) : R e := h
def W.exm {α β : Type} (c : W (Ex α)) (f : α → W β) (g : Er → W β) : W β := W.bind c fun r => match r with
  | .ok a => f a
  | .er e => g e
/-- outside of a try: it raises nothing -/
def W.sure {α : Type} (c : W (Ex α)) : W α := W.exm c W.ret fun _ => W.bad

def EvX {β : Type} (cl : Nat → Addr) (rs : List (Addr × HO)) (te : TE) (Wx : WX) (σ : L2.St) (Ho : Hp) (P : Pm β) (c : W (Ex β)) : Prop :=
  ∀ H1 Ho1, Same Ho Ho1 → Zs rs H1 Ho1 → ∀ (Φ : Ex β → Prop) (Q : VK), c.run Φ → (∀ x v H2 Ho2, Same Ho1 Ho2 → Zs rs H2 Ho2 → P rs Ho2 v x → Φ (.ok x) → Q v H2) →
    (∀ e H2 Ho2, Same Ho1 Ho2 → Zs rs H2 Ho2 → Φ (.er e) → Wx (.ref (cl e.cls)) none σ H2) → te σ H1 Q
def EfX {α : Type} [Py α] (cl : Nat → Addr) (K : PySem.W.Frag) (rs : List (Addr × HO)) (te : TE) (Wx : WX) (σ : L2.St) (Ho : Hp) (c : W (Ex (List α))) : Prop :=
  ∀ H1 Ho1, Same Ho Ho1 → Zs rs H1 Ho1 → ∀ (Φ : Ex (List α) → Prop) (Q : VK), c.run Φ → (∀ x p vs H2 Ho2, Same Ho1 Ho2 → Zs ((p, .lst vs) :: rs) H2 Ho2 → DL K Ho2 vs x → Φ (.ok x) → Q (.ref p) H2) →
    (∀ e H2 Ho2, Same Ho1 Ho2 → Zs rs H2 Ho2 → Φ (.er e) → Wx (.ref (cl e.cls)) none σ H2) → te σ H1 Q

def SpX1 {α γ : Type} (cl : Nat → Addr) (P1 : Pm α) (P : Pm γ) (f : α → W (Ex γ)) : Sp := fun vs H Q E => ∃ rs Ho v1 x1, vs = [v1] ∧ Zs rs H Ho ∧ P1 rs Ho v1 x1 ∧
  (f x1).run (ExP (fun r => ∀ v H' Ho', Same Ho Ho' → Zs rs H' Ho' → P rs Ho' v r → Q v H') fun e => ∀ H' Ho', Same Ho Ho' → Zs rs H' Ho' → E (.ref (cl e.cls)) none H')
def SpX2 {α β γ : Type} (cl : Nat → Addr) (P1 : Pm α) (P2 : Pm β) (P : Pm γ) (f : α → β → W (Ex γ)) : Sp := fun vs H Q E => ∃ rs Ho v1 x1 v2 x2, vs = [v1, v2] ∧ Zs rs H Ho ∧ P1 rs Ho v1 x1 ∧ P2 rs Ho v2 x2 ∧
  (f x1 x2).run (ExP (fun r => ∀ v H' Ho', Same Ho Ho' → Zs rs H' Ho' → P rs Ho' v r → Q v H') fun e => ∀ H' Ho', Same Ho Ho' → Zs rs H' Ho' → E (.ref (cl e.cls)) none H')
def SpX3 {α β γ δ : Type} (cl : Nat → Addr) (P1 : Pm α) (P2 : Pm β) (P3 : Pm γ) (P : Pm δ) (f : α → β → γ → W (Ex δ)) : Sp := fun vs H Q E => ∃ rs Ho v1 x1 v2 x2 v3 x3, vs = [v1, v2, v3] ∧ Zs rs H Ho ∧ P1 rs Ho v1 x1 ∧ P2 rs Ho v2 x2 ∧ P3 rs Ho v3 x3 ∧
  (f x1 x2 x3).run (ExP (fun r => ∀ v H' Ho', Same Ho Ho' → Zs rs H' Ho' → P rs Ho' v r → Q v H') fun e => ∀ H' Ho', Same Ho Ho' → Zs rs H' Ho' → E (.ref (cl e.cls)) none H')
def SpX4 {α β γ δ ε : Type} (cl : Nat → Addr) (P1 : Pm α) (P2 : Pm β) (P3 : Pm γ) (P4 : Pm δ) (P : Pm ε) (f : α → β → γ → δ → W (Ex ε)) : Sp := fun vs H Q E => ∃ rs Ho v1 x1 v2 x2 v3 x3 v4 x4, vs = [v1, v2, v3, v4] ∧ Zs rs H Ho ∧ P1 rs Ho v1 x1 ∧ P2 rs Ho v2 x2 ∧ P3 rs Ho v3 x3 ∧ P4 rs Ho v4 x4 ∧
  (f x1 x2 x3 x4).run (ExP (fun r => ∀ v H' Ho', Same Ho Ho' → Zs rs H' Ho' → P rs Ho' v r → Q v H') fun e => ∀ H' Ho', Same Ho Ho' → Zs rs H' Ho' → E (.ref (cl e.cls)) none H')
def SfX1 {α γ : Type} [Py γ] (cl : Nat → Addr) (K : PySem.W.Frag) (P1 : Pm α) (f : α → W (Ex (List γ))) : Sp := fun vs H Q E => ∃ rs Ho v1 x1, vs = [v1] ∧ Zs rs H Ho ∧ P1 rs Ho v1 x1 ∧
  (f x1).run (ExP (fun r => ∀ p vs H' Ho', Same Ho Ho' → Zs ((p, .lst vs) :: rs) H' Ho' → DL K Ho' vs r → Q (.ref p) H') fun e => ∀ H' Ho', Same Ho Ho' → Zs rs H' Ho' → E (.ref (cl e.cls)) none H')
def SfX2 {α β γ : Type} [Py γ] (cl : Nat → Addr) (K : PySem.W.Frag) (P1 : Pm α) (P2 : Pm β) (f : α → β → W (Ex (List γ))) : Sp := fun vs H Q E => ∃ rs Ho v1 x1 v2 x2, vs = [v1, v2] ∧ Zs rs H Ho ∧ P1 rs Ho v1 x1 ∧ P2 rs Ho v2 x2 ∧
  (f x1 x2).run (ExP (fun r => ∀ p vs H' Ho', Same Ho Ho' → Zs ((p, .lst vs) :: rs) H' Ho' → DL K Ho' vs r → Q (.ref p) H') fun e => ∀ H' Ho', Same Ho Ho' → Zs rs H' Ho' → E (.ref (cl e.cls)) none H')
def SfX3 {α β γ δ : Type} [Py δ] (cl : Nat → Addr) (K : PySem.W.Frag) (P1 : Pm α) (P2 : Pm β) (P3 : Pm γ) (f : α → β → γ → W (Ex (List δ))) : Sp := fun vs H Q E => ∃ rs Ho v1 x1 v2 x2 v3 x3, vs = [v1, v2, v3] ∧ Zs rs H Ho ∧ P1 rs Ho v1 x1 ∧ P2 rs Ho v2 x2 ∧ P3 rs Ho v3 x3 ∧
  (f x1 x2 x3).run (ExP (fun r => ∀ p vs H' Ho', Same Ho Ho' → Zs ((p, .lst vs) :: rs) H' Ho' → DL K Ho' vs r → Q (.ref p) H') fun e => ∀ H' Ho', Same Ho Ho' → Zs rs H' Ho' → E (.ref (cl e.cls)) none H')

section
variable {cl : Nat → Addr} {K : PySem.W.Frag} {rs r0 : List (Addr × HO)} {σ : L2.St} {H Ho : Hp} {t1 t2 t3 t4 te : TE} {α β γ δ ε θ : Type} {p : Addr} {Wx : WX}
theorem run_exm {c : W (Ex α)} {f : α → W β} {g : Er → W β} {Φ : β → Prop} (h : (W.exm c f g).run Φ) : c.run (ExP (fun a => (f a).run Φ) fun e => (g e).run Φ) :=
  W.mono _ _ _ (fun r hr => by cases r with | ok a => exact hr | er e => exact hr) h
theorem run_bret {a : α} {f : α → W β} {Φ : β → Prop} (h : (W.bind (W.ret a) f).run Φ) : (f a).run Φ := h
theorem exm_run {c : W (Ex α)} {f : α → W β} {g : Er → W β} {Φ : β → Prop} (h : c.run (ExP (fun a => (f a).run Φ) fun e => (g e).run Φ)) : (W.exm c f g).run Φ :=
  c.mono (ExP (fun a => (f a).run Φ) fun e => (g e).run Φ) _ (fun r hr => by cases r with | ok a => exact hr | er e => exact hr) h
theorem ev_sure {P : Pm β} {c : W (Ex β)} {c' : W β} (h : EvX cl rs te (fun _ _ _ _ => False) σ Ho P c) (hc : c' = W.sure c) : Ev rs te σ Ho P c' := by
  subst hc
  intro H1 Ho1 e z Φ Q hw k
  exact h H1 Ho1 e z _ Q (run_exm hw) (fun x v H2 Ho2 e2 z2 d hw => k x v H2 Ho2 e2 z2 d hw) fun _ _ _ _ _ h => h
theorem ef_sure [Py α] {c : W (Ex (List α))} {c' : W (List α)} (h : EfX cl K rs te (fun _ _ _ _ => False) σ Ho c) (hc : c' = W.sure c) : Ef K rs te σ Ho c' := by
  subst hc
  intro H1 Ho1 e z Φ Q hw k
  exact h H1 Ho1 e z _ Q (run_exm hw) (fun x p v H2 Ho2 e2 z2 d hw => k x p v H2 Ho2 e2 z2 d hw) fun _ _ _ _ _ h => h
theorem ev_callX1 {P1 : Pm α} {P : Pm γ} {f : α → W (Ex γ)} {c1 : W α} {c : W (Ex γ)} (h1 : Ev rs t1 σ Ho P1 c1) (hc : c = W.bind c1 f) : EvX cl rs (tCallS (SpX1 cl P1 P f) (WE Wx) (tCons t1 tNil)) Wx σ Ho P c := by
  subst hc
  intro H1 Ho1 e z Φ Q hw k kx
  refine h1 H1 Ho1 e z _ _ hw fun x v H2 Ho2 e2 z2 r2 hw => ?_
  refine ⟨rs, Ho2, v, x, rfl, z2, r2, W.mono _ _ _ (fun r hr => ?_) hw⟩
  cases r with
  | ok r => exact fun v' H' Ho' e' z' d' => k r v' H' Ho' (e2.trans e') z' d' hr
  | er r => exact fun H' Ho' e' z' => kx r H' Ho' (e2.trans e') z' hr
theorem ev_callX2 {P1 : Pm α} {P2 : Pm β} {P : Pm γ} [Mo P1] {f : α → β → W (Ex γ)} {c1 : W α} {c2 : W β} {c : W (Ex γ)} (h1 : Ev rs t1 σ Ho P1 c1) (h2 : Ev rs t2 σ Ho P2 c2) (hc : c = W.bind c1 fun a => W.bind c2 fun b => f a b) :
    EvX cl rs (tCallS (SpX2 cl P1 P2 P f) (WE Wx) (tCons t1 (tCons t2 tNil))) Wx σ Ho P c := by
  subst hc
  intro H1 Ho1 e z Φ Q hw k kx
  refine h1 H1 Ho1 e z _ _ hw fun x v H2 Ho2 e2 z2 r2 hw => ?_
  refine h2 H2 Ho2 (e.trans e2) z2 _ _ hw fun y u H3 Ho3 e3 z3 r3 hw => ?_
  refine ⟨rs, Ho3, v, x, u, y, rfl, z3, Mo.mo r2 e3, r3, W.mono _ _ _ (fun r hr => ?_) hw⟩
  cases r with
  | ok r => exact fun v' H' Ho' e' z' d' => k r v' H' Ho' (e2.trans (e3.trans e')) z' d' hr
  | er r => exact fun H' Ho' e' z' => kx r H' Ho' (e2.trans (e3.trans e')) z' hr
theorem ev_callX3 {P1 : Pm α} {P2 : Pm β} {P3 : Pm γ} {P : Pm δ} [Mo P1] [Mo P2] {f : α → β → γ → W (Ex δ)} {c1 : W α} {c2 : W β} {c3 : W γ} {c : W (Ex δ)} (h1 : Ev rs t1 σ Ho P1 c1) (h2 : Ev rs t2 σ Ho P2 c2) (h3 : Ev rs t3 σ Ho P3 c3)
    (hc : c = W.bind c1 fun a => W.bind c2 fun b => W.bind c3 fun d => f a b d) : EvX cl rs (tCallS (SpX3 cl P1 P2 P3 P f) (WE Wx) (tCons t1 (tCons t2 (tCons t3 tNil)))) Wx σ Ho P c := by
  subst hc
  intro H1 Ho1 e z Φ Q hw k kx
  refine h1 H1 Ho1 e z _ _ hw fun x v H2 Ho2 e2 z2 r2 hw => ?_
  refine h2 H2 Ho2 (e.trans e2) z2 _ _ hw fun y u H3 Ho3 e3 z3 r3 hw => ?_
  refine h3 H3 Ho3 ((e.trans e2).trans e3) z3 _ _ hw fun t w H4 Ho4 e4 z4 r4 hw => ?_
  refine ⟨rs, Ho4, v, x, u, y, w, t, rfl, z4, Mo.mo (Mo.mo r2 e3) e4, Mo.mo r3 e4, r4, W.mono _ _ _ (fun r hr => ?_) hw⟩
  cases r with
  | ok r => exact fun v' H' Ho' e' z' d' => k r v' H' Ho' (e2.trans (e3.trans (e4.trans e'))) z' d' hr
  | er r => exact fun H' Ho' e' z' => kx r H' Ho' (e2.trans (e3.trans (e4.trans e'))) z' hr
theorem ev_callX4 {P1 : Pm α} {P2 : Pm β} {P3 : Pm γ} {P4 : Pm δ} {P : Pm ε} [Mo P1] [Mo P2] [Mo P3] {f : α → β → γ → δ → W (Ex ε)} {c1 : W α} {c2 : W β} {c3 : W γ} {c4 : W δ} {c : W (Ex ε)} (h1 : Ev rs t1 σ Ho P1 c1) (h2 : Ev rs t2 σ Ho P2 c2) (h3 : Ev rs t3 σ Ho P3 c3) (h4 : Ev rs t4 σ Ho P4 c4)
    (hc : c = W.bind c1 fun a => W.bind c2 fun b => W.bind c3 fun d => W.bind c4 fun e => f a b d e) : EvX cl rs (tCallS (SpX4 cl P1 P2 P3 P4 P f) (WE Wx) (tCons t1 (tCons t2 (tCons t3 (tCons t4 tNil))))) Wx σ Ho P c := by
  subst hc
  intro H1 Ho1 e z Φ Q hw k kx
  refine h1 H1 Ho1 e z _ _ hw fun x v H2 Ho2 e2 z2 r2 hw => ?_
  refine h2 H2 Ho2 (e.trans e2) z2 _ _ hw fun y u H3 Ho3 e3 z3 r3 hw => ?_
  refine h3 H3 Ho3 ((e.trans e2).trans e3) z3 _ _ hw fun t w H4 Ho4 e4 z4 r4 hw => ?_
  refine h4 H4 Ho4 (((e.trans e2).trans e3).trans e4) z4 _ _ hw fun t' w' H5 Ho5 e5 z5 r5 hw => ?_
  refine ⟨rs, Ho5, v, x, u, y, w, t, w', t', rfl, z5, Mo.mo (Mo.mo (Mo.mo r2 e3) e4) e5, Mo.mo (Mo.mo r3 e4) e5, Mo.mo r4 e5, r5, W.mono _ _ _ (fun r hr => ?_) hw⟩
  cases r with
  | ok r => exact fun v' H' Ho' e' z' d' => k r v' H' Ho' (e2.trans (e3.trans (e4.trans (e5.trans e')))) z' d' hr
  | er r => exact fun H' Ho' e' z' => kx r H' Ho' (e2.trans (e3.trans (e4.trans (e5.trans e')))) z' hr
theorem ef_callX1 [Py γ] {P1 : Pm α} {f : α → W (Ex (List γ))} {c1 : W α} {c : W (Ex (List γ))} (h1 : Ev rs t1 σ Ho P1 c1) (hc : c = W.bind c1 f) : EfX cl K rs (tCallS (SfX1 cl K P1 f) (WE Wx) (tCons t1 tNil)) Wx σ Ho c := by
  subst hc
  intro H1 Ho1 e z Φ Q hw k kx
  refine h1 H1 Ho1 e z _ _ hw fun x v H2 Ho2 e2 z2 r2 hw => ?_
  refine ⟨rs, Ho2, v, x, rfl, z2, r2, W.mono _ _ _ (fun r hr => ?_) hw⟩
  cases r with
  | ok r => exact fun p v' H' Ho' e' z' d' => k r p v' H' Ho' (e2.trans e') z' d' hr
  | er r => exact fun H' Ho' e' z' => kx r H' Ho' (e2.trans e') z' hr
theorem ef_callX2 [Py γ] {P1 : Pm α} {P2 : Pm β} [Mo P1] {f : α → β → W (Ex (List γ))} {c1 : W α} {c2 : W β} {c : W (Ex (List γ))} (h1 : Ev rs t1 σ Ho P1 c1) (h2 : Ev rs t2 σ Ho P2 c2) (hc : c = W.bind c1 fun a => W.bind c2 fun b => f a b) :
    EfX cl K rs (tCallS (SfX2 cl K P1 P2 f) (WE Wx) (tCons t1 (tCons t2 tNil))) Wx σ Ho c := by
  subst hc
  intro H1 Ho1 e z Φ Q hw k kx
  refine h1 H1 Ho1 e z _ _ hw fun x v H2 Ho2 e2 z2 r2 hw => ?_
  refine h2 H2 Ho2 (e.trans e2) z2 _ _ hw fun y u H3 Ho3 e3 z3 r3 hw => ?_
  refine ⟨rs, Ho3, v, x, u, y, rfl, z3, Mo.mo r2 e3, r3, W.mono _ _ _ (fun r hr => ?_) hw⟩
  cases r with
  | ok r => exact fun p v' H' Ho' e' z' d' => k r p v' H' Ho' (e2.trans (e3.trans e')) z' d' hr
  | er r => exact fun H' Ho' e' z' => kx r H' Ho' (e2.trans (e3.trans e')) z' hr
theorem ef_callX3 [Py δ] {P1 : Pm α} {P2 : Pm β} {P3 : Pm γ} [Mo P1] [Mo P2] {f : α → β → γ → W (Ex (List δ))} {c1 : W α} {c2 : W β} {c3 : W γ} {c : W (Ex (List δ))} (h1 : Ev rs t1 σ Ho P1 c1) (h2 : Ev rs t2 σ Ho P2 c2) (h3 : Ev rs t3 σ Ho P3 c3)
    (hc : c = W.bind c1 fun a => W.bind c2 fun b => W.bind c3 fun d => f a b d) : EfX cl K rs (tCallS (SfX3 cl K P1 P2 P3 f) (WE Wx) (tCons t1 (tCons t2 (tCons t3 tNil)))) Wx σ Ho c := by
  subst hc
  intro H1 Ho1 e z Φ Q hw k kx
  refine h1 H1 Ho1 e z _ _ hw fun x v H2 Ho2 e2 z2 r2 hw => ?_
  refine h2 H2 Ho2 (e.trans e2) z2 _ _ hw fun y u H3 Ho3 e3 z3 r3 hw => ?_
  refine h3 H3 Ho3 ((e.trans e2).trans e3) z3 _ _ hw fun t w H4 Ho4 e4 z4 r4 hw => ?_
  refine ⟨rs, Ho4, v, x, u, y, w, t, rfl, z4, Mo.mo (Mo.mo r2 e3) e4, Mo.mo r3 e4, r4, W.mono _ _ _ (fun r hr => ?_) hw⟩
  cases r with
  | ok r => exact fun p v' H' Ho' e' z' d' => k r p v' H' Ho' (e2.trans (e3.trans (e4.trans e'))) z' d' hr
  | er r => exact fun H' Ho' e' z' => kx r H' Ho' (e2.trans (e3.trans (e4.trans e'))) z' hr
end

/-! ### statements that may raise -/
def tTryAs (K : PySem.W.Frag) (c : Value) (i : Nat) (tb : WX → TS) (ts : Addr → Value → Option Addr → TS) (Wout : WX) : TS := fun D σ H => tb (wAs K c i ts Wout D) D σ H
def tTryOnly (K : PySem.W.Frag) (c : Value) (tb : WX → TS) (ts : Addr → Value → Option Addr → TS) (Wout : WX) : TS := fun D σ H => tb (wOnly K c ts Wout D) D σ H
section
variable {cl : Nat → Addr} {K : PySem.W.Frag} {rs r0 : List (Addr × HO)} {σ : L2.St} {H Ho : Hp} {te : TE} {α β γ : Type} [Py α] {p : Addr} {Wx Wout : WX} {Φ : γ → Prop} {u : TS} {D : Ends} {i : Nat}
theorem q_setX {P : Pm β} {c : W (Ex β)} {f : β → W γ} {g : Er → W γ} (σ' : V → L2.St) (z : Zs rs H Ho) (hw : (W.exm c f g).run Φ) (he : EvX cl rs te Wx σ Ho P c) (hσ : ∀ v, σ.set i (some v) = σ' v)
    (kx : ∀ e H' Ho', Same Ho Ho' → Zs rs H' Ho' → (g e).run Φ → Wx (.ref (cl e.cls)) none σ H')
    (k : ∀ x v H' Ho', Same Ho Ho' → Zs rs H' Ho' → P rs Ho' v x → (f x).run Φ → u D (σ' v) H') : tSeq (tAsg te (gName i)) u D σ H :=
  he H Ho (Same.refl _) z _ _ (run_exm hw) (fun x v H' Ho' e z' r hw => by
    show u D (σ.set i (some v)) H'
    rw [hσ]
    exact k x v H' Ho' e z' r hw) kx
theorem q_setFX {c : W (Ex (List α))} {f : List α → W γ} {g : Er → W γ} (σ' : V → L2.St) (z : Zs rs H Ho) (hw : (W.exm c f g).run Φ) (he : EfX cl K rs te Wx σ Ho c) (hσ : ∀ v, σ.set i (some v) = σ' v)
    (kx : ∀ e H' Ho', Same Ho Ho' → Zs rs H' Ho' → (g e).run Φ → Wx (.ref (cl e.cls)) none σ H')
    (k : ∀ x p vs H' Ho', Same Ho Ho' → Zs ((p, .lst vs) :: rs) H' Ho' → DL K Ho' vs x → (f x).run Φ → u D (σ' (.ref p)) H') : tSeq (tAsg te (gName i)) u D σ H :=
  he H Ho (Same.refl _) z _ _ (run_exm hw) (fun x p vs H' Ho' e z' r hw => by
    show u D (σ.set i (some (.ref p))) H'
    rw [hσ]
    exact k x p vs H' Ho' e z' r hw) kx
theorem q_dropX {P : Pm β} {c : W (Ex β)} {f : β → W γ} {g : Er → W γ} (z : Zs rs H Ho) (hw : (W.exm c f g).run Φ) (he : EvX cl rs te Wx σ Ho P c)
    (kx : ∀ e H' Ho', Same Ho Ho' → Zs rs H' Ho' → (g e).run Φ → Wx (.ref (cl e.cls)) none σ H')
    (k : ∀ x v H' Ho', Same Ho Ho' → Zs rs H' Ho' → P rs Ho' v x → (f x).run Φ → u D σ H') : tSeq (tDrop te) u D σ H :=
  he H Ho (Same.refl _) z _ _ (run_exm hw) k kx
theorem q_retX {P : Pm β} {c : W (Ex β)} {f : β → W γ} {g : Er → W γ} (z : Zs rs H Ho) (hw : (W.exm c f g).run Φ) (he : EvX cl rs te Wx σ Ho P c)
    (kx : ∀ e H' Ho', Same Ho Ho' → Zs rs H' Ho' → (g e).run Φ → Wx (.ref (cl e.cls)) none σ H')
    (k : ∀ x v H' Ho', Same Ho Ho' → Zs rs H' Ho' → P rs Ho' v x → (f x).run Φ → D.rt v H') : tSeq (tRet te) u D σ H :=
  he H Ho (Same.refl _) z _ _ (run_exm hw) k kx
theorem q_retFX {c : W (Ex (List α))} {f : List α → W γ} {g : Er → W γ} (z : Zs rs H Ho) (hw : (W.exm c f g).run Φ) (he : EfX cl K rs te Wx σ Ho c)
    (kx : ∀ e H' Ho', Same Ho Ho' → Zs rs H' Ho' → (g e).run Φ → Wx (.ref (cl e.cls)) none σ H')
    (k : ∀ x p vs H' Ho', Same Ho Ho' → Zs ((p, .lst vs) :: rs) H' Ho' → DL K Ho' vs x → (f x).run Φ → D.rt (.ref p) H') : tSeq (tRet te) u D σ H :=
  he H Ho (Same.refl _) z _ _ (run_exm hw) k kx
def tRaise (C : Addr) (Wx : WX) : TS := fun _ σ H => Wx (.ref C) none σ H
theorem q_raise {C : Addr} (k : Wx (.ref C) none σ H) : tSeq (tRaise C Wx) u D σ H := k
theorem q_tryJ {S : Type} {c : Value} {cb : W (Ex S)} {cs : Er → W S} {f : S → W γ} {tb : WX → TS} {ts : Addr → Value → Option Addr → TS} {sub : Nat → Bool} (σ' : Addr → L2.St) (hm : ∀ n, PySem.W.exmOne K (.ref (cl n)) c = some (sub n)) (z : Zs rs H Ho)
    (hw : (W.bind (W.exm cb W.ret fun e => W.guard (sub e.cls = true) (cs e)) f).run Φ) (J : S → L2.St → Hp → Hp → Prop) (hσ : ∀ a, σ.set i (some (.ref a)) = σ' a)
    (hb : ∀ (Wx : WX) (N : L2.St → Hp → Prop), cb.run (ExP (fun s => ∀ σ' H'' Ho'', Same Ho Ho'' → J s σ' H'' Ho'' → N σ' H'') fun e => ∀ H' Ho', Same Ho Ho' → Zs rs H' Ho' → Wx (.ref (cl e.cls)) none σ H') → tb Wx { D with nx := N } σ H)
    (hs : ∀ e a H' Ho' (N : L2.St → Hp → Prop), Same Ho Ho' → Zs rs H' Ho' → H' a = none → (cs e).run (fun s => ∀ σ' H'' Ho'', Same Ho' Ho'' → J s σ' H'' Ho'' → N σ' H'') →
      ts a (.ref (cl e.cls)) none { nx := fun σ' H' => N (σ'.set i none) H', rt := D.rt, bk := fun σ' H' => D.bk (σ'.set i none) H', ct := fun σ' H' => D.ct (σ'.set i none) H' } (σ' a) H')
    (k : ∀ s σ' H' Ho', Same Ho Ho' → J s σ' H' Ho' → (f s).run Φ → u D σ' H') : tSeq (tTryAs K c i tb ts Wout) u D σ H := by
  refine hb _ _ (W.mono _ _ _ (fun r hr => ?_) (run_exm hw))
  cases r with
  | ok s => exact fun σ' H' Ho' e j => k s σ' H' Ho' e j hr
  | er r =>
    refine fun H' Ho' e z' => ⟨true, by rw [hm, hr.1], fun _ a ha => ?_, fun q => nomatch q⟩
    rw [hσ]
    exact hs r a H' Ho' (u D) e z' ha (W.mono _ _ _ (fun s hs σ' H'' Ho'' e'' j => k s σ' H'' Ho'' (e.trans e'') j hs) hr.2)
theorem q_tryOJ {S : Type} {c : Value} {cb : W (Ex S)} {cs : Er → W S} {f : S → W γ} {tb : WX → TS} {ts : Addr → Value → Option Addr → TS} {sub : Nat → Bool} (hm : ∀ n, PySem.W.exmOne K (.ref (cl n)) c = some (sub n)) (z : Zs rs H Ho)
    (hw : (W.bind (W.exm cb W.ret fun e => W.guard (sub e.cls = true) (cs e)) f).run Φ) (J : S → L2.St → Hp → Hp → Prop)
    (hb : ∀ (Wx : WX) (N : L2.St → Hp → Prop), cb.run (ExP (fun s => ∀ σ' H'' Ho'', Same Ho Ho'' → J s σ' H'' Ho'' → N σ' H'') fun e => ∀ H' Ho', Same Ho Ho' → Zs rs H' Ho' → Wx (.ref (cl e.cls)) none σ H') → tb Wx { D with nx := N } σ H)
    (hs : ∀ e a H' Ho' (N : L2.St → Hp → Prop), Same Ho Ho' → Zs rs H' Ho' → H' a = none → (cs e).run (fun s => ∀ σ' H'' Ho'', Same Ho' Ho'' → J s σ' H'' Ho'' → N σ' H'') → ts a (.ref (cl e.cls)) none { D with nx := N } σ H')
    (k : ∀ s σ' H' Ho', Same Ho Ho' → J s σ' H' Ho' → (f s).run Φ → u D σ' H') : tSeq (tTryOnly K c tb ts Wout) u D σ H := by
  refine hb _ _ (W.mono _ _ _ (fun r hr => ?_) (run_exm hw))
  cases r with
  | ok s => exact fun σ' H' Ho' e j => k s σ' H' Ho' e j hr
  | er r =>
    refine fun H' Ho' e z' => ⟨true, by rw [hm, hr.1], fun _ a ha => ?_, fun q => nomatch q⟩
    exact hs r a H' Ho' (u D) e z' ha (W.mono _ _ _ (fun s hs σ' H'' Ho'' e'' j => k s σ' H'' Ho'' (e.trans e'') j hs) hr.2)
end
section
variable {X : Cx} {K : PySem.W.Frag} {x n m : Str} {c : Value} {C : Addr} {i : Nat} {body suite : List Stmt} {b₀ : Stmt} {p p2 np pos pos' : Pos} {j : Nat} {tb : WX → TS} {ts : Addr → Value → Option Addr → TS} {W Wout : WX} {bmB : List Value} {B newId initId : String}
theorem zps_try_as (hK : X.K = K) (hs : X.stack = X.env :: X.outer) (hf : X.env.frame = some X.env.locals) (hN : X.N.Nodup) (hi : X.N[i]? = some n) (hln : X.env.kindOf n = some .local) (hc : Names X x c) (tk : Takes X Wout)
    (hb : ∀ (W : WX) (pn : List (Addr × Obj)) (xe : Value → Shared → Prop), Takes (X.tr pn xe) W → PassesOwn (model X.prog X.w) X.A X.env xe → PSs (X.tr pn xe) body (tb W))
    (hsu : ∀ (a : Addr) (oe : Obj) (cls : Value) (d : Option Addr) (pn : List (Addr × Obj)), Zc cls d oe → (∃ vs, oe.data = .fields vs) → PSs (X.suite a ((a, oe) :: pn)) (b₀ :: suite) (ts a cls d)) :
    PS X (.Try body [.ExceptHandler (some (.Name x np)) (some n) (b₀ :: suite) pos'] [] [] pos) (tTryAs K c i tb ts Wout) := hK ▸ ps_try_as hs hf hN hi hln hc tk hb hsu
theorem zps_try_only (hK : X.K = K) (hs : X.stack = X.env :: X.outer) (hf : X.env.frame = some X.env.locals) (hc : Names X x c) (tk : Takes X Wout)
    (hb : ∀ (W : WX) (pn : List (Addr × Obj)) (xe : Value → Shared → Prop), Takes (X.tr pn xe) W → PassesOwn (model X.prog X.w) X.A X.env xe → PSs (X.tr pn xe) body (tb W))
    (hsu : ∀ (a : Addr) (oe : Obj) (cls : Value) (d : Option Addr) (pn : List (Addr × Obj)), Zc cls d oe → (∃ vs, oe.data = .fields vs) → PSs (X.suite a ((a, oe) :: pn)) (b₀ :: suite) (ts a cls d)) :
    PS X (.Try body [.ExceptHandler (some (.Name x np)) none (b₀ :: suite) pos'] [] [] pos) (tTryOnly K c tb ts Wout) := hK ▸ ps_try_only hs hf hc tk hb hsu
theorem zps_raise (hK : X.K = K) (hc : X.calm = true) (tk : Takes X W) (q : PySem.W.excIn K C [.type "ValueError", .type "Exception", .type "BaseException", .type "object"] "ValueError.__new__" = true) (gC : X.mg x = some (.ref C)) (kC : PySem.W.keepIn K (.ref C) = true)
    (h1 : PySem.W.subIn K (.ref C) (.type "BaseException") = some true) (h2 : PySem.W.typeIn K (.ref C) = some (.type "type")) (hg : Gl X x) (hdb : (x == ("__debug__" : Str)) = false := by decide) :
    PS X (.Raise (some (.Call (.Name x p) [.Constant (.str m) j p2] [] pos)) none pos') (tRaise C W) := by
  subst hK
  exact ps_raise hc tk (pmk_own PySem.F.excBase_ValueError q gC kC (raises_own h1 h2) hg hdb)
/-- isinstance of the error that the suite holds -/
def rIsX (K : PySem.W.Frag) (a : Addr) (cls : Value) (d : Option Addr) : List V → Hp → VK → Prop := fun xs H Q => ∃ (D : Addr) (c : V) (cv : Value) (b : Bool), cls = .ref D ∧ d = none ∧ xs = [.ref a, c] ∧ ClsV c cv ∧ ExcC K D ∧ PySem.W.kitOne K (.ref D) cv = some b ∧ Q (.bl b) H
def rIsXT (K : PySem.W.Frag) (a : Addr) (cls : Value) (d : Option Addr) : List V → Hp → VK → Prop := fun xs H Q => ∃ (D : Addr) (tp : Addr) (cs : List V) (us : List Value) (b : Bool), cls = .ref D ∧ d = none ∧ xs = [.ref a, .ref tp] ∧ H tp = some (.tup cs) ∧ Paired ClsV cs us ∧ ExcC K D ∧ PySem.W.kitAny K (.ref D) us = some b ∧ Q (.bl b) H
theorem inst_at {X : Cx} {pins : List (Addr × Obj)} {σ : L2.St} {H : Hp} {s : Shared} {a D : Addr} {oe : Obj} {pn : List (Addr × Obj)} (hz : Zc (.ref D) none oe) (hf : ∃ vs, oe.data = .fields vs) (I : Inv (X.suite a ((a, oe) :: pn)) pins σ H s) : PySem.W.InstAt s.heap a oe D none := by
  have hget := (I.pin (a, oe) (List.mem_append.mpr (.inl List.mem_cons_self))).1
  obtain ⟨vs, hv⟩ := hf
  obtain ⟨oc, od, oda, osl⟩ := oe
  obtain ⟨h1, h2⟩ := hz
  dsimp only at h1 h2 hv
  subst h1 h2 hv
  exact ⟨hget, rfl, rfl, trivial⟩
theorem zisX {a : Addr} {cls : Value} {d : Option Addr} {oe : Obj} {pn : List (Addr × Obj)} (hK : X.K = K) (hz : Zc cls d oe) (hf : ∃ vs, oe.data = .fields vs) : CallR (X.suite a ((a, oe) :: pn)) (.builtin "isinstance") (rIsX K a cls d) := by
  subst hK
  intro pins s σ H xs us Q I r h
  obtain ⟨D, c, cv, b, rfl, rfl, rfl, hcv, C, e, q⟩ := h
  obtain ⟨u1, u2, rfl, r1, r2⟩ := vals2 r
  cases (show u1 = Value.ref a from r1)
  have ec := hcv.eq r2
  subst ec
  exact PySem.W.kia_one (PySem.W.handS_kitx_exc C.hg C.hk C.hs C.hd C.ha C.hn C.ht C.hm) I.kIn (inst_at hz hf I) e (fun z => nomatch z) fun tk => ⟨.bl b, H, I.tok tk, rfl, q⟩
theorem zisXT {a : Addr} {cls : Value} {d : Option Addr} {oe : Obj} {pn : List (Addr × Obj)} (hK : X.K = K) (hz : Zc cls d oe) (hf : ∃ vs, oe.data = .fields vs) : CallR (X.suite a ((a, oe) :: pn)) (.builtin "isinstance") (rIsXT K a cls d) := by
  subst hK
  intro pins s σ H xs us Q I r h
  obtain ⟨D, tp, cs, ws, b, rfl, rfl, rfl, hT, k, C, e, q⟩ := h
  obtain ⟨u1, u2, rfl, r1, r2⟩ := vals2 r
  cases (show u1 = Value.ref a from r1)
  cases (show u2 = Value.ref tp from r2)
  obtain ⟨_, its, rv, o, h1, h2, n, h3⟩ := (show ObjOk X.prog X.w H s.heap tp (.tup cs) from I.hok tp _ hT)
  have e3 := ClsV.all k rv
  subst e3
  obtain ⟨oc, od, dt, sl⟩ := o
  simp only at h2 h3
  subst h2 h3
  exact PySem.W.kia_tup (PySem.W.handS_kitx_exc C.hg C.hk C.hs C.hd C.ha C.hn C.ht C.hm) I.kIn (inst_at hz hf I) h1 e (fun z => nomatch z) fun tk => ⟨.bl b, H, I.tok tk, rfl, q⟩
end
section
variable {cl : Nat → Addr} {K : PySem.W.Frag} {rs r0 : List (Addr × HO)} {σ : L2.St} {H Ho : Hp} {i n : Nat} {a : Addr} {ts : TA}
theorem ev_isX {v : V} {cv : Value} {b : Bool} {c : W Bool} (h : σ[i]? = some (some (.ref a))) (xc : ExcC K (cl n)) (k : ClsV v cv) (e : PySem.W.kitOne K (.ref (cl n)) cv = some b) (hc : c = W.ret b) :
    Ev rs (tCB (rIsX K a (.ref (cl n)) none) (tCons (tVar i) (tCons (tC v) tNil))) σ Ho (PD K) c := by
  subst hc
  intro H1 Ho1 e1 z Φ Q hw q
  exact ⟨_, h, cl n, v, cv, b, rfl, rfl, rfl, k, xc, e, q b _ H1 Ho1 (Same.refl _) z (.bl _) hw⟩
inductive TCs : TA → List V → Prop where
  | nil : TCs tNil []
  | cons {v : V} {vs : List V} {t : TA} (h : TCs t vs) : TCs (tCons (tC v) t) (v :: vs)
theorem TCs.run {t : TA} {vs : List V} (h : TCs t vs) : ∀ {σ : L2.St} {H : Hp} {Q : List V → Hp → Prop}, Q vs H → t σ H Q := by
  induction h with
  | nil => exact fun q => q
  | cons h ih => exact fun q => ih q
theorem ev_isXT {vs : List V} {us : List Value} {b : Bool} {c : W Bool} (h : σ[i]? = some (some (.ref a))) (xc : ExcC K (cl n)) (ht : TCs ts vs) (k : Paired ClsV vs us) (e : PySem.W.kitAny K (.ref (cl n)) us = some b) (hc : c = W.ret b) (hl : vs.length ≤ sizeLine := by decide) :
    Ev rs (tCB (rIsXT K a (.ref (cl n)) none) (tCons (tVar i) (tCons (tTup ts) tNil))) σ Ho (PD K) c := by
  subst hc
  intro H1 Ho1 e1 z Φ Q hw q
  refine ⟨_, h, ht.run ⟨hl, fun p hp => ?_⟩⟩
  have e3 : Same Ho1 (upd Ho1 p (.tup vs)) := Same.new (z.free hp)
  exact ⟨cl n, p, vs, us, b, rfl, rfl, rfl, upd_same, k, xc, e, q b _ _ _ e3 (z.alloc hp) (.bl _) hw⟩
theorem kitAny_or {t c : Value} {cs : List Value} {b r : Bool} (h : PySem.W.kitOne K t c = some b) (hr : PySem.W.kitAny K t cs = some r) : PySem.W.kitAny K t (c :: cs) = some (b || r) := by
  refine kitAny_cons h (fun e => ?_) (fun e => by rw [e]; rfl)
  rw [e]; exact hr
end

/-! ### values of one kind as values of a wider one -/
section
variable {K : PySem.W.Frag} {rs : List (Addr × HO)} {σ : L2.St} {Ho : Hp} {te ta tb : TE} {β : Type} [Py β]
theorem ev_py {ca : W β} {c : W PyData} (h : Ev rs te σ Ho (PD K) ca) (hc : c = W.bind ca fun a => W.ret (toPy a)) : Ev rs te σ Ho (PD K) c := by
  subst hc
  intro H1 Ho1 e z Φ Q hw k
  exact h H1 Ho1 e z _ Q hw fun x v H2 Ho2 e2 z2 r hw => k (toPy x) v H2 Ho2 e2 z2 r hw
theorem ev_get {ca : W (Option β)} {c : W β} (h : Ev rs te σ Ho (PD K) ca) (hc : c = W.bind ca fun a => W.opt a) : Ev rs te σ Ho (PD K) c := by
  subst hc
  intro H1 Ho1 e z Φ Q hw k
  refine h H1 Ho1 e z _ Q hw fun x v H2 Ho2 e2 z2 r hw => ?_
  obtain ⟨b, rfl, hw⟩ := hw
  exact k b v H2 Ho2 e2 z2 r hw
theorem v_notN : VOp (fun x y H Q => y = .non ∧ Q (.bl (!decide (x = .non))) H) (PD (β := Option β) K) (PD (β := Unit) K) (PD K) (fun a _ => W.bind (W.guard (∀ b : β, a = some b → toPy b ≠ .none) (W.ret ())) fun _ => W.ret a.isSome) := by
  intro rs x v y u H Ho z d1 d2 Φ Q hw k
  cases d2
  refine ⟨rfl, ?_⟩
  have e : (!decide (v = .non)) = x.isSome := by
    cases x with
    | none => cases d1; rfl
    | some b =>
      have nb := hw.1 b rfl
      rw [decide_eq_false]
      · rfl
      · intro ev
        subst ev
        have d3 : Dp K Ho V.non (toPy b) := d1
        generalize toPy b = pb at d3 nb
        cases d3
        exact nb rfl
  rw [e]
  exact k _ _ H Ho (Same.refl _) z (.bl _) hw.2
theorem ev_isiO [Kin β] {cx : W (Option β)} {c : W Bool} {T : String} {b b' : Bool} (ha : Ev rs te σ Ho (PD K) cx) (hb : kitB (Kin.ty β) T = some b) (hb' : kitB "NoneType" T = some b') (hc : c = W.bind cx fun x => W.ret (if x.isSome then b else b')) :
    Ev rs (tCB (rIsi K) (tCons te (tCons (tC (.ty T)) tNil))) σ Ho (PD K) c := by
  subst hc
  intro H1 Ho1 e z Φ Q hw k
  refine ha H1 Ho1 e z _ _ hw fun x v H2 Ho2 e2 z2 r2 hw => ?_
  cases x with
  | none =>
    refine ⟨v, .ty T, _, .type T, b', rfl, .ty T, ?_, kit_ty hb', k b' _ H2 Ho2 e2 z2 (.bl _) hw⟩
    cases r2
    exact .base .non
  | some x => exact ⟨v, .ty T, _, .type T, b, rfl, .ty T, Kin.ok (x := x) (D.mo (x := x) r2 z2.le), kit_ty hb, k b _ H2 Ho2 e2 z2 (.bl _) hw⟩
end

/-! ### more that is walked -/
/-- a list's reading: a list that stays while r0 stays -/
def El {α : Type} [Py α] (K : PySem.W.Frag) (r0 rs : List (Addr × HO)) (te : TE) (σ : L2.St) (Ho : Hp) (c : W (List α)) : Prop :=
  ∀ H1 Ho1, Same Ho Ho1 → Zs rs H1 Ho1 → ∀ (Φ : List α → Prop) (Q : VK), c.run Φ → (∀ x v H2 Ho2, Same Ho1 Ho2 → Zs rs H2 Ho2 → LV K r0 Ho2 v x → Φ x → Q v H2) → te σ H1 Q
def rngD (a b : Int) : List Int := (List.range (a - b).toNat).map fun k : Nat => a - k
def enumZ {α : Type} (xs : List α) : List (Int × α) := (rng 0 xs.length).zip xs
section
variable {K : PySem.W.Frag} {rs r0 r1 : List (Addr × HO)} {σ : L2.St} {H Ho : Hp} {ta tb tc te tl : TE} {α β γ : Type} [Py α] [Py β] {p : Addr} {Φ : γ → Prop} {wi : TI}
theorem src_X {c : W (List α)} {f : List α → W γ} (z : Zs rs H Ho) (hw : (W.bind c f).run Φ) (hs : Sx K r0 rs wi σ Ho c) : Src K r0 wi σ H Ho (fun xs H' Ho' => Zs rs H' Ho' ∧ (f xs).run Φ) := hs H Ho (Same.refl _) z _ hw
theorem el_D {c : W (List α)} (h : Ev rs te σ Ho (PD K) c) : El K r0 rs te σ Ho c := by
  intro H1 Ho1 e z Φ Q hw k
  exact h H1 Ho1 e z Φ Q hw fun x v H2 Ho2 e2 z2 d hw => k x v H2 Ho2 e2 z2 (LV.of d) hw
theorem el_V {i : Nat} {v : V} {xs : List α} {c : W (List α)} (d : LV K r1 Ho v xs) (hs : ∀ r ∈ r1, r ∈ r0) (hv : σ[i]? = some (some v)) (hc : c = W.ret xs) : El K r0 rs (tVar i) σ Ho c := by
  subst hc
  intro H1 Ho1 e z Φ Q hw k
  exact ⟨v, hv, k xs v H1 Ho1 (Same.refl _) z (LV.sub (LV.mo d e) hs) hw⟩
theorem trn_zip {a b : Addr} {xs : List α} {ys : List β} {v u : V} (h : LV K r0 Ho v xs) (hv : v = .ref a) (h' : LV K r0 Ho u ys) (hu : u = .ref b) : Trn K r0 (Itz K a b) (xs.zip ys) Ho := by
  intro i rs' H' Ho' e z sub
  obtain ⟨a', vs, rfl, d, s⟩ := h
  obtain ⟨b', us, rfl, d', s'⟩ := h'
  cases hv
  cases hu
  have sa : SqL K H' a vs := src_stay s e z sub
  have sb : SqL K H' b us := src_stay s' e z sub
  refine ⟨fun p hp => ?_, fun hl => ⟨vs, us, sa, sb, ?_⟩⟩
  · obtain ⟨hx, hy⟩ := List.getElem?_zip_eq_some.mp hp
    obtain ⟨x, ex, dx⟩ := d.get hx
    obtain ⟨y, ey, dy⟩ := d'.get hy
    refine ⟨⟨vs, us, x, y, sa, sb, ex, ey⟩, fun t H'' yy => ?_⟩
    obtain ⟨T, x', y', rfl, hT, rfl, qx, qy⟩ := yy
    have e1 : x' = x := Option.some.inj ((qx _ sa).symm.trans ex)
    have e2 : y' = y := Option.some.inj ((qy _ sb).symm.trans ey)
    subst e1 e2
    have e3 : Same Ho' (upd Ho' T (.tup [x', y'])) := Same.new (z.free hT)
    exact ⟨_, e3, fun _ z => z.alloc hT, .tup (SqT.of upd_same) (.cons (D.mo (D.mo dx e) e3) (.cons (D.mo (D.mo dy e) e3) .nil))⟩
  · rw [List.length_zip] at hl
    rw [d.len, d'.len]
    omega
theorem trn_enum {a : Addr} {xs : List α} {v : V} (h : LV K r0 Ho v xs) (hv : v = .ref a) : Trn K r0 (Ite K a) (enumZ xs) Ho := by
  intro i rs' H' Ho' e z sub
  obtain ⟨a', vs, rfl, d, s⟩ := h
  cases hv
  have sa : SqL K H' a vs := src_stay s e z sub
  refine ⟨fun p hp => ?_, fun hl => ⟨vs, sa, ?_⟩⟩
  · obtain ⟨hx, hy⟩ := List.getElem?_zip_eq_some.mp hp
    obtain ⟨_, hx⟩ := rng_get hx
    obtain ⟨y, ey, dy⟩ := d.get hy
    refine ⟨⟨vs, y, sa, ey⟩, fun t H'' yy => ?_⟩
    obtain ⟨T, y', rfl, hT, rfl, qy⟩ := yy
    have e2 : y' = y := Option.some.inj ((qy _ sa).symm.trans ey)
    subst e2
    have e3 : Same Ho' (upd Ho' T (.tup [.int (i : Nat), y'])) := Same.new (z.free hT)
    obtain ⟨p1, p2⟩ := p
    dsimp only at hx
    rw [Int.zero_add] at hx
    subst hx
    exact ⟨_, e3, fun _ z => z.alloc hT, .tup (SqT.of upd_same) (.cons (.int _) (.cons (D.mo (D.mo dy e) e3) .nil))⟩
  · unfold enumZ at hl
    rw [List.length_zip, rng_len] at hl
    rw [d.len]
    omega
theorem trn_rangeD {a b : Int} : Trn K [] (Itc a (-1) (a - b).toNat) (rngD a b) Ho := by
  intro i rs' H' Ho' e z sub
  refine ⟨fun x hx => ?_, fun hl => ?_⟩
  · unfold rngD at hx
    rw [List.getElem?_map] at hx
    cases q : (List.range (a - b).toNat)[i]? with
    | none => rw [q] at hx; cases hx
    | some k =>
      rw [q] at hx
      obtain ⟨hl, ek⟩ := List.getElem?_eq_some_iff.mp q
      rw [List.getElem_range] at ek
      subst ek
      rw [List.length_range] at hl
      have ex : x = a - i := (Option.some.inj hx).symm
      subst ex
      refine ⟨hl, fun y H'' yy => ?_⟩
      obtain ⟨rfl, rfl⟩ := yy
      have q2 : a + (i : Int) * -1 = a - i := by omega
      rw [q2]
      exact ⟨Ho', Same.refl _, fun _ z => z, .int _⟩
  · unfold rngD at hl
    rw [List.length_map, List.length_range] at hl
    exact hl
theorem sx_zip {ca : W (List α)} {cb : W (List β)} {c : W (List (α × β))} (ha : El K r0 rs ta σ Ho ca) (hb : El K r0 rs tb σ Ho cb) (hr : ∀ r ∈ r0, r ∈ rs) (hc : c = W.bind ca fun xs => W.bind cb fun ys => W.ret (xs.zip ys)) : Sx K r0 rs (iZip K (tCons ta (tCons tb tNil))) σ Ho c := by
  subst hc
  intro H1 Ho1 e z Φ hw R k
  refine ha H1 Ho1 e z _ _ hw fun xs v H2 Ho2 e2 z2 d hw => ?_
  refine hb H2 Ho2 (e.trans e2) z2 _ _ hw fun ys u H3 Ho3 e3 z3 d3 hw => ?_
  have d4 := LV.mo d e3
  obtain ⟨a', vs, rfl, dd, s⟩ := id d4
  obtain ⟨b', us, rfl, dd', s'⟩ := id d3
  exact ⟨a', b', vs, us, rfl, src_stay s (Same.refl _) z3 hr, src_stay s' (Same.refl _) z3 hr, k _ _ H3 Ho3 (e2.trans e3) ⟨z3, hw⟩ (trn_zip d4 rfl d3 rfl)⟩
theorem sx_R3 {c1 c2 : W Int} {c : W (List Int)} (ha : Ev rs ta σ Ho (PD K) c1) (hb : Ev rs tb σ Ho (PD K) c2) (hd : Ev rs tc σ Ho (PD K) (W.ret (-1))) (hc : c = W.bind c1 fun a => W.bind c2 fun b => W.guard (rngOk b a) (W.ret (rngD a b))) : Sx K [] rs (iRng3 (tCons ta (tCons tb (tCons tc tNil)))) σ Ho c := by
  subst hc
  intro H1 Ho1 e z Φ hw R k
  refine ha H1 Ho1 e z _ _ hw fun a v H2 Ho2 e2 z2 d2 hw => ?_
  refine hb H2 Ho2 (e.trans e2) z2 _ _ hw fun b u H3 Ho3 e3 z3 d3 hw => ?_
  refine hd H3 Ho3 ((e.trans e2).trans e3) z3 (fun x => x = -1) _ rfl fun m w H4 Ho4 e4 z4 d4 em => ?_
  subst em
  rw [d_int d2, d_int d3, d_int d4]
  exact ⟨a, b, -1, _, rfl, RgC.neg hw.1.2.2.1 hw.1.2.2.2 hw.1.1 hw.1.2.1, k _ _ H4 Ho4 (e2.trans (e3.trans e4)) ⟨z4, hw.2⟩ trn_rangeD⟩
theorem sx_enum {ca : W (List α)} {c : W (List (Int × α))} (ha : El K r0 rs ta σ Ho ca) (hr : ∀ r ∈ r0, r ∈ rs) (hc : c = W.bind ca fun xs => W.ret (enumZ xs)) : Sx K r0 rs (iEnum K (tCons ta tNil)) σ Ho c := by
  subst hc
  intro H1 Ho1 e z Φ hw R k
  refine ha H1 Ho1 e z _ _ hw fun xs v H2 Ho2 e2 z2 d hw => ?_
  obtain ⟨q, ys, rfl, dd, s⟩ := id d
  exact ⟨q, ys, rfl, src_stay s (Same.refl _) z2 hr, k _ _ H2 Ho2 e2 ⟨z2, hw⟩ (trn_enum d rfl)⟩
end
section
variable {X : Cx} {K : PySem.W.Frag} {tg e e2 : Expr} {ta : TA} {p pos tpos : Pos} {elts : List Expr} {kk : Nat}
theorem zpi_zip (hK : X.K = K) (hg : Gl X "zip") (hm : X.mg "zip" = none) (ha : PA X [e, e2] ta)
    (hs : starEach [e, e2] X.env = (false, eval e X.env) :: starEach [e2] X.env := by rfl) (hpl : (backTo pos (starEach [e2] X.env)).any (·.1) = false := by rfl) :
    PI X (.Tuple elts kk tpos) (.Call (.Name "zip" p) [e, e2] [] pos) (iZip K ta) := hK ▸ pi_zip hg hm ha hs hpl
theorem zpi_enum (hK : X.K = K) (hg : Gl X "enumerate") (hm : X.mg "enumerate" = none) (ha : PA X [e] ta) (hs : starEach [e] X.env = [(false, eval e X.env)] := by rfl) :
    PI X (.Tuple elts kk tpos) (.Call (.Name "enumerate" p) [e] [] pos) (iEnum K ta) := hK ▸ pi_enum hg hm ha hs
end
/-! ### more statements -/
section
variable {K : PySem.W.Frag} {rs : List (Addr × HO)} {σ : L2.St} {H Ho : Hp} {te : TE} {α β γ θ : Type} [Py α] [Py β] [Py θ] {p : Addr} {Φ : γ → Prop} {u : TS} {D : Ends} {g : TG} {ws : List V} {n : Nat}
theorem q_un {c : W β} {f : β → W γ} (z : Zs rs H Ho) (hw : (W.bind c f).run Φ) (he : Ev rs te σ Ho (PD K) c) (k : ∀ x v H' Ho', Same Ho Ho' → Zs rs H' Ho' → Z.D K Ho' v x → (f x).run Φ → g v σ H' fun σ' H'' => u D σ' H'') : tSeq (tAsg te g) u D σ H :=
  he H Ho (Same.refl _) z _ _ hw k
theorem q_unM {xs : List θ} {c : List θ → W (β × List θ)} {f : β → List θ → W γ} (z : Zs ((p, .lst ws) :: rs) H Ho) (d : DL K Ho ws xs) (hw : (W.bind2 (c xs) f).run Φ) (he : Em K p rs te σ Ho c)
    (k : ∀ x xs' v ws' H' Ho', Same Ho Ho' → Zs ((p, .lst ws') :: rs) H' Ho' → DL K Ho' ws' xs' → Z.D K Ho' v x → (f x xs').run Φ → g v σ H' fun σ' H'' => u D σ' H'') : tSeq (tAsg te g) u D σ H :=
  he H Ho ws xs (Same.refl _) z d _ _ hw k
theorem q_unX {cl : Nat → Addr} {Wx : WX} {c : W (Ex β)} {f : β → W γ} {g' : Er → W γ} (z : Zs rs H Ho) (hw : (W.exm c f g').run Φ) (he : EvX cl rs te Wx σ Ho (PD K) c)
    (kx : ∀ e H' Ho', Same Ho Ho' → Zs rs H' Ho' → (g' e).run Φ → Wx (.ref (cl e.cls)) none σ H')
    (k : ∀ x v H' Ho', Same Ho Ho' → Zs rs H' Ho' → Z.D K Ho' v x → (f x).run Φ → g v σ H' fun σ' H'' => u D σ' H'') : tSeq (tAsg te g) u D σ H :=
  he H Ho (Same.refl _) z _ _ (run_exm hw) k kx
theorem Zs.ins {a : Addr × HO} {l : List (Addr × HO)} (z : Zs (a :: l) H Ho) (n : Nat) (hn : n ≤ l.length := by simp) : Zs (l.insertIdx n a) H Ho := z.perm (List.perm_insertIdx a l hn).symm
theorem perm_erase {δ : Type} {a : δ} : ∀ {l : List δ} {n : Nat}, l[n]? = some a → l.Perm (a :: l.eraseIdx n)
  | [], n, h => by simp at h
  | x :: xs, 0, h => by
    have e : x = a := Option.some.inj h
    subst e
    exact List.Perm.refl _
  | x :: xs, n + 1, h => by
    have ih := perm_erase (l := xs) (n := n) (by simpa using h)
    exact (List.Perm.cons x ih).trans (List.Perm.swap a x _)
/-- a list of one's own stands for good from now on -/
theorem frzN {xs : List α} (n : Nat) (z : Zs rs H Ho) (hn : rs[n]? = some (p, .lst ws)) (d : DL K Ho ws xs) : ∃ Ho', Same Ho Ho' ∧ Zs (rs.eraseIdx n) H Ho' ∧ Z.D K Ho' (.ref p) xs := by
  exact frz (z.perm (perm_erase hn)) d
end
end Z

/-! # sorted lists of tuples of ints, any number of them -/
namespace Z
open PySem PySem.Spec PyProof.Rows L2
def lexL : List Int → List Int → Bool
  | [], [] => false
  | [], _ :: _ => true
  | _ :: _, [] => false
  | x :: xs, y :: ys => if x = y then lexL xs ys else decide (x < y)
theorem lexL_asym : ∀ a b : List Int, lexL a b = true → lexL b a = false
  | [], [], h => nomatch h
  | [], _ :: _, _ => rfl
  | _ :: _, [], h => nomatch h
  | x :: xs, y :: ys, h => by
    have h : (if x = y then lexL xs ys else decide (x < y)) = true := h
    show (if y = x then lexL ys xs else decide (y < x)) = false
    by_cases e : x = y
    · rw [if_pos e] at h
      rw [if_pos e.symm]
      exact lexL_asym xs ys h
    · rw [if_neg e] at h
      rw [if_neg (fun q => e q.symm)]
      have := of_decide_eq_true h
      exact decide_eq_false (by omega)
theorem lexL_tr : ∀ a b c : List Int, lexL b a = false → lexL c b = false → lexL c a = false
  | [], b, c, _, h2 => by
    cases c with
    | nil => rfl
    | cons z zs => rfl
  | x :: xs, [], c, h1, _ => nomatch h1
  | x :: xs, y :: ys, [], _, h2 => nomatch h2
  | x :: xs, y :: ys, z :: zs, h1, h2 => by
    have h1 : (if y = x then lexL ys xs else decide (y < x)) = false := h1
    have h2 : (if z = y then lexL zs ys else decide (z < y)) = false := h2
    show (if z = x then lexL zs xs else decide (z < x)) = false
    by_cases e1 : y = x
    · subst e1
      rw [if_pos rfl] at h1
      by_cases e2 : z = y
      · rw [if_pos e2] at h2 ⊢
        exact lexL_tr xs ys zs h1 h2
      · rw [if_neg e2] at h2 ⊢
        exact h2
    · rw [if_neg e1] at h1
      have q1 := of_decide_eq_false h1
      by_cases e2 : z = y
      · subst e2
        rw [if_neg e1]; exact h1
      · rw [if_neg e2] at h2
        have q2 := of_decide_eq_false h2
        rw [if_neg (by omega)]
        exact decide_eq_false (by omega)
theorem lexL_tot : ∀ a b : List Int, lexL a b = false → lexL b a = false → a = b
  | [], [], _, _ => rfl
  | [], _ :: _, h, _ => nomatch h
  | _ :: _, [], _, h => nomatch h
  | x :: xs, y :: ys, h1, h2 => by
    have h1 : (if x = y then lexL xs ys else decide (x < y)) = false := h1
    have h2 : (if y = x then lexL ys xs else decide (y < x)) = false := h2
    by_cases e : x = y
    · subst e
      rw [if_pos rfl] at h1 h2
      rw [lexL_tot xs ys h1 h2]
    · rw [if_neg e] at h1
      rw [if_neg (fun q => e q.symm)] at h2
      have := of_decide_eq_false h1
      have := of_decide_eq_false h2
      omega
section
variable {prog : Program} {w : World} {A : Around} {E : Value → Shared → Prop} {s : Shared}
theorem kat_lexL {b : Bool} {ps qs : List Value} {is js : List Int} (n : Nat) (hp : IntsAre ps is) (hq : IntsAre qs js) (he : is.length = js.length) : PySem.W.KatLex prog w A b false (fun r t => t = s ∧ r = lexL is js) (ps.zip qs) n s := by
  induction hp generalizing qs js n with
  | nil =>
    cases hq with
    | nil => exact PySem.W.kat_nil ⟨rfl, rfl⟩
    | cons q u hq => simp at he
  | @cons i t ps is hp ih =>
    cases hq with
    | nil => simp at he
    | @cons j u qs js hq =>
      show PySem.W.KatLex prog w A b false _ ((Value.int i t, Value.int j u) :: ps.zip qs) n s
      refine PySem.W.kat_cons (wpAny_eqBool_int ?_)
      have el : lexL (i :: is) (j :: js) = if i = j then lexL is js else decide (i < j) := rfl
      by_cases e : i = j
      · subst e
        rw [if_pos rfl] at el
        rw [beq_self_eq_true, el]
        exact PySem.W.kat_yes (ih (n + 1) hq (by simpa using he))
      · rw [if_neg e] at el
        rw [show (i == j) = false from beq_eq_false_iff_ne.mpr e, el]
        exact PySem.W.kat_no (TS.oneLt_ints _ ⟨rfl, rfl⟩)
theorem tups_cmp {us : List Value} {k : Value → List Int} {d : Nat} (hp : ∀ v ∈ us, TS.TupInts s.heap v (k v) ∧ (k v).length = d) : SrtO.Cmp prog w A s (tuples' true) (fun p => p.1 ∈ us) (SrtO.lt2 fun v u => lexL (k v) (k u)) := by
  intro p q h1 h2
  obtain ⟨⟨a, xs, ea, ⟨o, ho, _, n, hd⟩, ia⟩, la⟩ := hp _ h1
  obtain ⟨⟨b, ys, eb, ⟨u, hu, _, m, hm⟩, ib⟩, lb⟩ := hp _ h2
  show wpAny (model prog w) A (keyLt' (tuples' true) p.1 q.1) (fun r t => t = s ∧ r = lexL (k p.1) (k q.1)) (fun _ _ => False) s
  have sz : xs.size = ys.size := by
    have q1 := ia.length
    have q2 := ib.length
    rw [Array.length_toList] at q1 q2
    omega
  generalize k p.1 = kp at ia la ⊢
  generalize k q.1 = kq at ib lb ⊢
  rw [ea, eb]
  refine PySem.W.kat_lt ho hd hu hm ?_
  rw [show decide (xs.size < ys.size) = false from decide_eq_false (by omega)]
  exact kat_lexL 0 ia ib (by omega)
theorem tups_firsts {h : Heap} {k : Value → List Int} {d : Nat} (h1 : 1 ≤ d) : ∀ us : List Value, (∀ v ∈ us, TS.TupInts h v (k v) ∧ (k v).length = d) → ∃ fs, PySem.W.KatTups h us fs ∧ fs.length = us.length ∧ ∀ f ∈ fs, ∃ i t, f = Value.int i t
  | [], _ => ⟨[], .nil, rfl, fun _ m => nomatch m⟩
  | v :: us, x => by
    obtain ⟨fs, kt, hl, hi⟩ := tups_firsts h1 us fun u hu => x u (List.mem_cons_of_mem _ hu)
    obtain ⟨⟨a, xs, ea, ⟨o, ho, hc, n, hdt⟩, ia⟩, la⟩ := x v List.mem_cons_self
    obtain ⟨ys⟩ := xs
    cases ys with
    | nil =>
      have l := ia.length
      rw [la] at l
      have l : 0 = d := l
      omega
    | cons y ys =>
      obtain ⟨m, t, hy⟩ := ia.all y List.mem_cons_self
      subst ea
      refine ⟨y :: fs, .cons ho hc hdt rfl kt, by simp [hl], fun f hf => ?_⟩
      rcases List.mem_cons.mp hf with rfl | hf
      · exact ⟨m, t, hy⟩
      · exact hi f hf
theorem tups_sortable {a : Addr} {us : List Value} {k : Value → List Int} {d : Nat} (h1 : 1 ≤ d) (h0 : 0 < us.length) (hp : ∀ v ∈ us, TS.TupInts s.heap v (k v) ∧ (k v).length = d) (ha : ∀ o, s.heap.get? a = some o → o.cls ≠ .type "tuple") :
    SrtO.SortableO prog w A s a us fun v u => lexL (k v) (k u) := by
  intro h' keep
  have hp' : ∀ v ∈ us, TS.TupInts h' v (k v) ∧ (k v).length = d := fun v m => ⟨(hp v m).1.keeps fun b o e c => keep b o (fun z => by subst z; exact ha o e c) e, (hp v m).2⟩
  obtain ⟨fs, q1, q2, q3⟩ := tups_firsts h1 us hp'
  refine ⟨tuples' true, fun Q E hq => ?_, tups_cmp hp'⟩
  refine PySem.W.kat_kind (T := .type "int") q1 (by omega) (fun f m => ?_) (by rfl) ?_
  · obtain ⟨x, t, rfl⟩ := q3 f m
    exact PySem.W.Looks.now
  · rw [show (Value.type "int" != Value.type "tuple") = true from by decide +kernel]
    exact hq
theorem swoL {α : Type} (k : α → List Int) : SrtO.Swo fun v u => lexL (k v) (k u) := ⟨fun x y => lexL_asym _ _, fun x y z => lexL_tr _ _ _⟩
end
/-- sorted(xs), xs a list of tuples of d ints -/
def rSortedL (K : PySem.W.Frag) (d : Nat) : List V → Hp → VK → Prop := fun vs H Q => ∃ (a : Addr) (xs : List V), vs = [V.ref a] ∧ SqL K H a xs ∧ (∀ x ∈ xs, ∃ ns, TupI K H x ns ∧ ns.length = d) ∧
  ∀ (ys : List V) (p : Addr), ys.Perm xs → ys.Pairwise (fun x y => ∀ n m, TupI K H x n → TupI K H y m → lexL m n = false) → H p = none → Q (.ref p) (upd H p (.lst ys))
theorem zsorted {X : Cx} {K : PySem.W.Frag} {d : Nat} (hK : X.K = K) (h1 : 1 ≤ d) : CallR X (.builtin "sorted") (rSortedL K d) := by
  subst hK
  intro pins s σ H vs us Q I r h
  obtain ⟨a, xs, rfl, hs, hx, q⟩ := h
  obtain ⟨its, rv, hl, hz⟩ := I.list hs
  rw [Vals.ref1 r]
  obtain ⟨e1, e2⟩ := bkV_refs rv fun x m => by
    obtain ⟨ns, ⟨t, e, _⟩, _⟩ := hx x m
    exact ⟨t, e⟩
  have raw : ∀ v ∈ its, TS.TupInts s.heap v (TS.intsOf s.heap v) ∧ (TS.intsOf s.heap v).length = d := by
    intro v hv
    obtain ⟨t, rfl⟩ := e2 v hv
    have hm : V.ref t ∈ xs := by rw [e1]; exact List.mem_map.mpr ⟨_, hv, rfl⟩
    obtain ⟨ns, ⟨t', e, ht⟩, hn⟩ := hx _ hm
    cases e
    have q1 := tupI_raw I ht
    rw [q1.ints]
    exact ⟨q1, hn⟩
  refine SrtO.sorted_ord (ltv := fun v u => lexL (TS.intsOf s.heap v) (TS.intsOf s.heap u)) (swoL _) hl.isList (by rw [← rv.length]; exact hz) (fun h2 h₁ b hb kk => ?_) fun out o1 o2 => ?_
  · refine tups_sortable (s := { s with heap := h₁ }) (k := TS.intsOf s.heap) h1 (by omega) (fun v hm => ⟨(raw v hm).1.keeps fun c o e _ => (kk c o e).2, (raw v hm).2⟩) fun o e => ?_
    have e' := e.symm.trans hb
    cases e'
    exact fun c => absurd (Value.type.inj c) (by decide)
  · have h3 : ∀ u ∈ out, ∃ b, u = Value.ref b := fun u hu => e2 u (o2.perm.mem_iff.mp hu)
    obtain ⟨n, hn⟩ := PyProof.Rows.sortedAll_at s.heap its out.toArray
    have hpm : (out.map bkV).Perm xs := by rw [e1]; exact o2.perm.map _
    refine ⟨.ref (s.heap.objs.size + 1), upd H (s.heap.objs.size + 1) (.lst (out.map bkV)), I.laid (t' := s.toks) (fun b o e => PyProof.Rows.sortedAll_old e) (Nat.le_succ _) ⟨?_, out, n, bkV_vals h3, hn⟩, rfl, q _ _ hpm ?_ (I.hok.fresh (Nat.le_succ _))⟩
    · rw [hpm.length_eq]; exact hz
    · rw [List.pairwise_map]
      refine List.Pairwise.imp (fun {u v} huv nn mm h4 h5 => ?_) o1
      obtain ⟨t1, g1, k1⟩ := h4
      obtain ⟨t2, g2, k2⟩ := h5
      have w1 := tupI_raw I k1
      have w2 := tupI_raw I k2
      rw [← bkV_ref g1] at w1
      rw [← bkV_ref g2] at w2
      rw [← w1.ints, ← w2.ints]
      exact huv
/-! ### by data -/
class Ktup (α : Type) [Py α] where
  key : α → List Int
  d : Nat
  pos : 1 ≤ d
  len : ∀ x, (key x).length = d
  py : ∀ x : α, toPy x = .tuple ((key x).map PyData.int)
  inj : ∀ x y, key x = key y → x = y
instance : Ktup (Int × Int) := ⟨fun x => [x.1, x.2], 2, by decide, fun _ => rfl, fun _ => rfl, fun x y h => by
  obtain ⟨a, b⟩ := x
  obtain ⟨c, d⟩ := y
  simpa using h⟩
instance : Ktup (P3 Int Int Int) := ⟨fun x => [x.a, x.b, x.c], 3, by decide, fun _ => rfl, fun _ => rfl, fun x y h => by
  obtain ⟨a, b, c⟩ := x
  obtain ⟨d, e, f⟩ := y
  simpa using h⟩
instance : Ktup (P4 Int Int Int Int) := ⟨fun x => [x.a, x.b, x.c, x.d], 4, by decide, fun _ => rfl, fun _ => rfl, fun x y h => by
  obtain ⟨a, b, c, d⟩ := x
  obtain ⟨e, f, g, i⟩ := y
  simpa using h⟩
section
variable {α : Type} [Py α] [Ktup α] {K : PySem.W.Frag} {H Ho : Hp}
def leK (x y : α) : Bool := !lexL (Ktup.key y) (Ktup.key x)
def srtK (xs : List α) : List α := xs.mergeSort leK
theorem leK_tr (x y z : α) (h1 : leK x y = true) (h2 : leK y z = true) : leK x z = true := by
  unfold leK at *
  simp only [Bool.not_eq_true'] at *
  exact lexL_tr _ _ _ h1 h2
theorem leK_tot (x y : α) : (leK x y || leK y x) = true := by
  unfold leK
  cases h : lexL (Ktup.key y) (Ktup.key x) with
  | false => rfl
  | true => rw [lexL_asym _ _ h]; rfl
theorem leK_anti (x y : α) (h1 : leK x y = true) (h2 : leK y x = true) : x = y := by
  unfold leK at *
  simp only [Bool.not_eq_true'] at *
  exact Ktup.inj _ _ (lexL_tot _ _ h2 h1)
theorem srt_uniq : ∀ {l m : List α}, l.Perm m → l.Pairwise (fun x y => leK x y = true) → m.Pairwise (fun x y => leK x y = true) → l = m
  | [], m, hp, _, _ => (List.Perm.nil_eq hp)
  | x :: l, [], hp, _, _ => absurd hp.length_eq (by simp)
  | x :: l, y :: m, hp, h1, h2 => by
    have e : x = y := by
      rcases List.mem_cons.mp (hp.mem_iff.mp (List.mem_cons_self (a := x) (l := l))) with e | hx
      · exact e
      rcases List.mem_cons.mp (hp.mem_iff.mpr (List.mem_cons_self (a := y) (l := m))) with e | hy
      · exact e.symm
      exact leK_anti x y ((List.pairwise_cons.mp h1).1 y hy) ((List.pairwise_cons.mp h2).1 x hx)
    subst e
    rw [srt_uniq hp.cons_inv (List.pairwise_cons.mp h1).2 (List.pairwise_cons.mp h2).2]
theorem srtK_perm (xs : List α) : (srtK xs).Perm xs := List.mergeSort_perm xs leK
theorem srtK_srt (xs : List α) : (srtK xs).Pairwise (fun x y => leK x y = true) := List.pairwise_mergeSort leK_tr leK_tot xs
theorem srtK_of {xs ys : List α} (h : ys.Perm xs) (hs : ys.Pairwise (fun x y => leK x y = true)) : ys = srtK xs := srt_uniq (h.trans (srtK_perm xs).symm) hs (srtK_srt xs)
theorem srtK_eq {xs ys : List α} (h : ys.Perm xs) : srtK ys = srtK xs := srtK_of ((srtK_perm ys).trans h) (srtK_srt ys)
theorem DL.perm {vs us : List V} (hp : us.Perm vs) : ∀ {xs : List α}, DL K H vs xs → ∃ ys, ys.Perm xs ∧ DL K H us ys := by
  induction hp with
  | nil => exact fun {xs} h => ⟨xs, List.Perm.refl _, h⟩
  | cons v _ ih =>
    intro xs h
    cases xs with
    | nil => cases h
    | cons x xs =>
      cases h with
      | cons h1 h2 =>
        obtain ⟨ys, p, q⟩ := ih h2
        exact ⟨x :: ys, p.cons x, .cons h1 q⟩
  | swap u v l =>
    intro xs h
    cases xs with
    | nil => cases h
    | cons x xs =>
      cases xs with
      | nil => cases h with | cons _ h2 => cases h2
      | cons y xs =>
        cases h with
        | cons h1 h2 =>
          cases h2 with
          | cons h2 h3 => exact ⟨y :: x :: xs, List.Perm.swap _ _ _, .cons h2 (.cons h1 h3)⟩
  | trans _ _ ih1 ih2 =>
    intro xs h
    obtain ⟨ys, p, q⟩ := ih2 h
    obtain ⟨zs, p2, q2⟩ := ih1 q
    exact ⟨zs, p2.trans p, q2⟩
theorem dints_all : ∀ {vs : List V} {is : List Int}, DpAll K H vs (is.map PyData.int) → vs = is.map V.int
  | vs, [], h => by cases h; rfl
  | vs, i :: is, h => by
    cases h with
    | cons h1 h2 =>
      cases h1
      rw [dints_all h2]; rfl
theorem tupI_of {v : V} {x : α} (h : D K H v x) : TupI K H v (Ktup.key x) := by
  have h : Dp K H v (toPy x) := h
  rw [Ktup.py] at h
  cases h with
  | tup hs ha =>
    rw [dints_all ha] at hs
    exact ⟨_, rfl, hs⟩
theorem dl_pw {us : List V} : ∀ {ys : List α}, DL K H us ys → us.Pairwise (fun x y => ∀ n m, TupI K H x n → TupI K H y m → lexL m n = false) → ys.Pairwise (fun x y => leK x y = true) := by
  induction us with
  | nil =>
    intro ys h _
    cases ys with
    | nil => exact .nil
    | cons y ys => cases h
  | cons u us ih =>
    intro ys h hp
    cases ys with
    | nil => cases h
    | cons y ys =>
      cases h with
      | cons h1 h2 =>
        obtain ⟨p1, p2⟩ := List.pairwise_cons.mp hp
        refine List.pairwise_cons.mpr ⟨fun z hz => ?_, ih h2 p2⟩
        obtain ⟨i, hi⟩ := List.mem_iff_getElem?.mp hz
        obtain ⟨t, ht, dt⟩ := DL.get h2 hi
        have q := p1 t (List.mem_of_getElem? ht) _ _ (tupI_of h1) (tupI_of dt)
        unfold leK
        rw [q]; rfl
theorem c_sortK : VC1F K (rSortedL K (Ktup.d α)) (PL (α := α) K) (fun xs => W.ret (srtK xs)) := by
  intro rs x v H Ho z d1 Φ Q hw k
  obtain ⟨p, vs, rfl, d, s⟩ := LV.rd d1 z
  have dH : DL K H vs x := DL.mo d z.le
  refine ⟨p, vs, rfl, s, fun u hu => ?_, fun us q hp hpw hq => ?_⟩
  · obtain ⟨i, hi⟩ := List.mem_iff_getElem?.mp hu
    obtain ⟨y, hy, dy⟩ := dH.item hi
    exact ⟨_, tupI_of dy, Ktup.len y⟩
  · obtain ⟨ys, pe, dy⟩ := DL.perm hp d
    have dyH : DL K H us ys := DL.mo dy z.le
    have e : ys = srtK x := srtK_of pe (dl_pw dyH hpw)
    subst e
    exact k _ q us _ Ho (Same.refl _) (z.root hq) dy hw
end
/-! ### extend, tuples put together -/
section
variable {K : PySem.W.Frag} {rs : List (Addr × HO)} {σ : L2.St} {H Ho : Hp} {te : TE} {α β γ δ ε θ : Type} [Py α] [Py β] [Py γ] [Py δ] [Py θ] {p : Addr} {Φ : ε → Prop} {u : TS} {D : Ends} {i n : Nat} {ws : List V}
def exd {α : Type} (xs ys : List α) : W (List α) := W.guard (xs.length + ys.length ≤ sizeLine) (W.ret (xs ++ ys))
theorem q_ext {xs : List α} {c : W (List α)} {f : List α → W ε} (z : Zs rs H Ho) (d : DL K Ho ws xs) (hn : rs[n]? = some (p, .lst ws)) (hw : (W.bind c fun ys => W.bind (exd xs ys) f).run Φ) (he : Ef K rs te σ Ho c) (hi : σ[i]? = some (some (.ref p)))
    (k : ∀ xs' ws' H' Ho', Same Ho Ho' → Zs (rs.set n (p, .lst ws')) H' Ho' → DL K Ho' ws' xs' → (f xs').run Φ → u D σ H') : tSeq (tDrop (tBM K "list" rExtend (tVar i) (tCons te tNil))) u D σ H := by
  have hp := z.rt _ (List.mem_of_getElem? hn)
  refine ⟨_, hi, .inl ⟨rfl, _, SqL.of hp.1⟩, he H Ho (Same.refl _) z _ _ hw fun ys b us H' Ho' e z' r hw => ?_⟩
  have hp' := z'.rt _ (List.mem_cons_of_mem _ (List.mem_of_getElem? hn))
  refine ⟨p, b, ws, us, rfl, rfl, hp'.1, z'.head, by rw [DL.len d, r.len]; exact hw.1, ?_⟩
  exact k _ _ _ Ho' e (Zs.putI (n := n) z'.tail hn) ((DL.mo d e).append r) hw.2
theorem v_cat22 : VOp (rCatT K) (PD (β := α × β) K) (PD (β := γ × δ) K) (PD K) (fun a b => W.ret (⟨a.1, a.2, b.1, b.2⟩ : P4 α β γ δ)) := by
  intro rs x v y u H Ho z d1 d2 Φ Q hw k
  cases d1 with
  | tup hs ha =>
    cases d2 with
    | tup ht hb =>
      cases ha with
      | cons a1 a2 =>
        cases a2 with
        | cons a2 a3 =>
          cases a3
          cases hb with
          | cons b1 b2 =>
            cases b2 with
            | cons b2 b3 =>
              cases b3
              refine ⟨_, _, _, _, rfl, rfl, Same.sqT z.le hs, Same.sqT z.le ht, by simp, by show 4 ≤ sizeLine; decide, fun e => (nomatch e), fun _ q hq => ?_⟩
              exact k _ _ _ _ (Same.new (z.free hq)) (z.alloc hq) (.tup (SqT.of upd_same) (.cons (dp_mono (Same.new (z.free hq)) _ _ a1) (.cons (dp_mono (Same.new (z.free hq)) _ _ a2) (.cons (dp_mono (Same.new (z.free hq)) _ _ b1) (.cons (dp_mono (Same.new (z.free hq)) _ _ b2) .nil))))) hw
theorem zop_catT {X : Cx} (hK : X.K = K) : OpR X (binaryOp .Add) (rCatT K) := hK ▸ op_catT
end
end Z

/-! # Zm: what the computations promise, in plain Lean -/
namespace Z
open PySem L2
section
variable {α β γ S ρ : Type}
theorem run_bind {c : W α} {f : α → W β} {Φ : β → Prop} : (W.bind c f).run Φ = c.run fun a => (f a).run Φ := rfl
theorem run_bind2 {c : W (α × β)} {f : α → β → W γ} {Φ : γ → Prop} : (W.bind2 c f).run Φ = c.run fun r => (f r.1 r.2).run Φ := rfl
theorem run_rt {a : α} {Φ : α → Prop} : (W.ret a).run Φ = Φ a := rfl
theorem run_guard {p : Prop} {c : W α} {Φ : α → Prop} : (W.guard p c).run Φ = (p ∧ c.run Φ) := rfl
theorem run_opt {o : Option α} {Φ : α → Prop} : (W.opt o).run Φ = ∃ a, o = some a ∧ Φ a := rfl
theorem run_ite {b : Bool} {x y : W α} {Φ : α → Prop} : (W.ite b x y).run Φ = ((b = true → x.run Φ) ∧ (b = false → y.run Φ)) := rfl
theorem run_if {b : Bool} {x y : W α} {Φ : α → Prop} : (W.ite b x y).run Φ = (if b = true then x.run Φ else y.run Φ) := by
  cases b <;> simp [W.ite]
theorem run_mono {c : W α} {Φ Φ' : α → Prop} (h : c.run Φ) (k : ∀ a, Φ a → Φ' a) : c.run Φ' := c.mono _ _ k h
theorem atI_some {xs : List α} {i : Int} (h0 : 0 ≤ i) (h : i < xs.length) : ∃ a, a ∈ xs ∧ atI xs i = some a := by
  obtain ⟨j, rfl⟩ : ∃ j : Nat, i = j := ⟨i.toNat, by omega⟩
  have hj : j < xs.length := by omega
  exact ⟨xs[j], List.getElem_mem hj, atI_nat (List.getElem?_eq_getElem hj)⟩
theorem atI_get' {xs : List α} {i : Int} {a : α} (h0 : 0 ≤ i) (h : xs[i.toNat]? = some a) : atI xs i = some a := by
  obtain ⟨j, rfl⟩ : ∃ j : Nat, i = j := ⟨i.toNat, by omega⟩
  exact atI_nat (by simpa using h)
theorem ixN_nat' {n : Nat} {i : Int} (h0 : 0 ≤ i) (h : i < n) : ixN n i = some i.toNat := by
  unfold ixN
  rw [if_pos h0, if_pos h]
theorem forL_wp (Inv : Nat → S → Prop) {xs : List α} {s : S} {f : α → S → W S} {Φ : S → Prop} (h0 : Inv 0 s) (step : ∀ i x s, xs[i]? = some x → Inv i s → (f x s).run (Inv (i + 1))) (k : ∀ s, Inv xs.length s → Φ s) : (W.forL xs s f).run Φ := by
  induction xs generalizing s Inv with
  | nil => exact k s h0
  | cons x xs ih =>
    show (f x s).run (fun s' => (W.forL xs s' f).run Φ)
    refine run_mono (step 0 x s rfl h0) fun s' h' => ?_
    exact ih (fun i => Inv (i + 1)) h' (fun i y s hy hi => step (i + 1) y s (by simpa using hy) hi) fun s hs => k s hs
theorem forC_wp (Inv : Nat → S → Prop) {xs : List α} {s : S} {f : α → S → W (Ctl ρ S)} {Φ : Ctl ρ S → Prop} (h0 : Inv 0 s)
    (step : ∀ i x s, xs[i]? = some x → Inv i s → (f x s).run (CtlP (Inv (i + 1)) (fun s => Φ (.nx s)) (fun r => Φ (.rt r)))) (k : ∀ s, Inv xs.length s → Φ (.nx s)) : (W.forC xs s f).run Φ := by
  induction xs generalizing s Inv with
  | nil => exact k s h0
  | cons x xs ih =>
    show (W.bind (f x s) _).run Φ
    rw [run_bind]
    refine run_mono (step 0 x s rfl h0) fun c hc => ?_
    cases c with
    | nx s' => exact ih (fun i => Inv (i + 1)) hc (fun i y s hy hi => step (i + 1) y s (by simpa using hy) hi) fun s hs => k s hs
    | bk s' => exact hc
    | rt r => exact hc
theorem comp_wp {xs : List α} {acc : List β} {ct : α → W Bool} {cf : α → W β} (t : α → Bool) (f : α → β) {Φ : List β → Prop} (ht : ∀ x ∈ xs, ∀ Ψ : Bool → Prop, Ψ (t x) → (ct x).run Ψ) (hf : ∀ x ∈ xs, t x = true → ∀ Ψ : β → Prop, Ψ (f x) → (cf x).run Ψ)
    (k : Φ (acc ++ (xs.filter t).map f)) : (comp xs acc ct cf).run Φ := by
  induction xs generalizing acc with
  | nil =>
    simp at k
    exact k
  | cons x xs ih =>
    refine ht x List.mem_cons_self _ ⟨fun e => ?_, fun e => ?_⟩
    · refine hf x List.mem_cons_self e _ (ih (fun y hy => ht y (List.mem_cons_of_mem _ hy)) (fun y hy => hf y (List.mem_cons_of_mem _ hy)) ?_)
      simpa [List.filter_cons, e] using k
    · refine ih (fun y hy => ht y (List.mem_cons_of_mem _ hy)) (fun y hy => hf y (List.mem_cons_of_mem _ hy)) ?_
      simpa [List.filter_cons, e] using k
theorem compG_wp {xs : List α} {ct : α → W Bool} {cf : α → W β} (t : α → Bool) (f : α → β) {Φ : List β → Prop} (hl : xs.length ≤ sizeLine) (ht : ∀ x ∈ xs, ∀ Ψ : Bool → Prop, Ψ (t x) → (ct x).run Ψ) (hf : ∀ x ∈ xs, t x = true → ∀ Ψ : β → Prop, Ψ (f x) → (cf x).run Ψ)
    (k : Φ ((xs.filter t).map f)) : (compG xs ct cf).run Φ := ⟨hl, comp_wp t f ht hf (by simpa using k)⟩
theorem small {n : Nat} (h : n ≤ 100000) : n ≤ sizeLine := Nat.le_trans h (by decide)
theorem small' {n : Nat} (h : n ≤ 100000) : n < sizeLine := Nat.lt_of_le_of_lt h (by decide)
theorem apd_wp {xs : List α} {x : α} {Φ : List α → Prop} (h : xs.length ≤ 100000) (k : Φ (xs ++ [x])) : (apd xs x).run Φ := ⟨small' h, k⟩
theorem sti_wp {xs : List α} {i : Int} {y : α} {Φ : List α → Prop} (h0 : 0 ≤ i) (h : i < xs.length) (k : Φ (xs.set i.toNat y)) : (sti xs i y).run Φ := ⟨i.toNat, ixN_nat' h0 h, k⟩
/-! slices -/
theorem sIx_none (n d : Nat) : HT.sIx n d none = d := HT.sIx_none n d
theorem cut_to {xs : List α} {k : Int} (h0 : 0 ≤ k) : cut xs none (some k) = xs.take k.toNat := by
  obtain ⟨j, rfl⟩ : ∃ j : Nat, k = j := ⟨k.toNat, by omega⟩
  unfold cut
  rw [HT.sIx_none, HT.sIx_nat]
  simp only [List.drop_zero, Nat.sub_zero, Int.toNat_natCast]
  by_cases h : j ≤ xs.length
  · rw [Nat.min_eq_left h]
  · rw [Nat.min_eq_right (by omega), List.take_of_length_le (Nat.le_refl _), List.take_of_length_le (by omega)]
theorem cut_init {xs : List α} : cut xs none (some (-1)) = xs.dropLast := by
  unfold cut
  rw [HT.sIx_none]
  have e : HT.sIx xs.length xs.length (some (-1)) = xs.length - 1 := by
    simp only [HT.sIx]
    rw [if_pos (by decide)]
    omega
  rw [e]
  simp [List.dropLast_eq_take]
theorem cut_from {xs : List α} {k : Int} (h0 : 0 ≤ k) : cut xs (some k) none = xs.drop k.toNat := by
  obtain ⟨j, rfl⟩ : ∃ j : Nat, k = j := ⟨k.toNat, by omega⟩
  unfold cut
  rw [HT.sIx_none, HT.sIx_nat]
  simp only [Int.toNat_natCast]
  by_cases h : j ≤ xs.length
  · rw [Nat.min_eq_left h, List.take_of_length_le (by simp)]
  · rw [Nat.min_eq_right (by omega)]
    simp
    omega
end
/-! ### equal data -/
/-- data that == tells apart as Lean does, and that may be compared -/
class Eqv (α : Type) [Py α] where
  eqv : ∀ x y : α, PyData.eqv (toPy x) (toPy y) = true ↔ x = y
  d : Nat
  shape : ∀ x : α, (toPy x).depth ≤ d
theorem eqvAll_map {α : Type} [Py α] [Eqv α] : ∀ xs ys : List α, PyData.eqvAll (xs.map Py.toPy) (ys.map Py.toPy) = true ↔ xs = ys
  | [], [] => by simp [PyData.eqvAll]
  | [], y :: ys => by simp [PyData.eqvAll]
  | x :: xs, [] => by simp [PyData.eqvAll]
  | x :: xs, y :: ys => by
    have h1 := Eqv.eqv x y
    have h2 := eqvAll_map xs ys
    simp only [List.map_cons, PyData.eqvAll, Bool.and_eq_true, List.cons.injEq]
    rw [← h1, ← h2]
theorem depthAll_map {α : Type} [Py α] [Eqv α] : ∀ xs : List α, PyData.depthAll (xs.map Py.toPy) ≤ Eqv.d α
  | [] => by simp [PyData.depthAll]
  | x :: xs => by
    have h1 := Eqv.shape x
    have h2 := depthAll_map xs
    simp only [List.map_cons, PyData.depthAll]
    exact Nat.max_le.mpr ⟨h1, h2⟩
instance : Eqv Int := ⟨fun x y => by simp [toPy, Py.toPy, PyData.eqv], 0, fun x => by simp [toPy, Py.toPy, PyData.depth]⟩
instance : Eqv Bool := ⟨fun x y => by simp [toPy, Py.toPy, PyData.eqv], 0, fun x => by simp [toPy, Py.toPy, PyData.depth]⟩
instance : Eqv Str := ⟨fun x y => by simp [toPy, Py.toPy, PyData.eqv], 0, fun x => by simp [toPy, Py.toPy, PyData.depth]⟩
instance {α : Type} [Py α] [Eqv α] : Eqv (List α) := ⟨fun x y => by
  show PyData.eqv (.list (x.map Py.toPy)) (.list (y.map Py.toPy)) = true ↔ x = y
  simp only [PyData.eqv]
  exact eqvAll_map x y, Eqv.d α + 1, fun x => by
  show PyData.depth (.list (x.map Py.toPy)) ≤ _
  simp only [PyData.depth]
  exact Nat.succ_le_succ (depthAll_map x)⟩
instance {α β : Type} [Py α] [Py β] [Eqv α] [Eqv β] : Eqv (α × β) := ⟨fun x y => by
  obtain ⟨x1, x2⟩ := x
  obtain ⟨y1, y2⟩ := y
  show PyData.eqv (.tuple [toPy x1, toPy x2]) (.tuple [toPy y1, toPy y2]) = true ↔ _
  simp only [PyData.eqv, PyData.eqvAll, Bool.and_eq_true, Bool.and_true, Prod.mk.injEq]
  rw [Eqv.eqv x1 y1, Eqv.eqv x2 y2], Eqv.d α + Eqv.d β + 1, fun x => by
  obtain ⟨x1, x2⟩ := x
  show PyData.depth (.tuple [toPy x1, toPy x2]) ≤ _
  have h1 := Eqv.shape x1
  have h2 := Eqv.shape x2
  simp only [PyData.depth, PyData.depthAll]
  omega⟩
instance {α β γ : Type} [Py α] [Py β] [Py γ] [Eqv α] [Eqv β] [Eqv γ] : Eqv (P3 α β γ) := ⟨fun x y => by
  obtain ⟨x1, x2, x3⟩ := x
  obtain ⟨y1, y2, y3⟩ := y
  show PyData.eqv (.tuple [toPy x1, toPy x2, toPy x3]) (.tuple [toPy y1, toPy y2, toPy y3]) = true ↔ _
  simp only [PyData.eqv, PyData.eqvAll, Bool.and_eq_true, Bool.and_true, P3.mk.injEq]
  rw [Eqv.eqv x1 y1, Eqv.eqv x2 y2, Eqv.eqv x3 y3], Eqv.d α + Eqv.d β + Eqv.d γ + 1, fun x => by
  obtain ⟨x1, x2, x3⟩ := x
  show PyData.depth (.tuple [toPy x1, toPy x2, toPy x3]) ≤ _
  have h1 := Eqv.shape x1
  have h2 := Eqv.shape x2
  have h3 := Eqv.shape x3
  simp only [PyData.depth, PyData.depthAll]
  omega⟩
instance {α β γ δ : Type} [Py α] [Py β] [Py γ] [Py δ] [Eqv α] [Eqv β] [Eqv γ] [Eqv δ] : Eqv (P4 α β γ δ) := ⟨fun x y => by
  obtain ⟨x1, x2, x3, x4⟩ := x
  obtain ⟨y1, y2, y3, y4⟩ := y
  show PyData.eqv (.tuple [toPy x1, toPy x2, toPy x3, toPy x4]) (.tuple [toPy y1, toPy y2, toPy y3, toPy y4]) = true ↔ _
  simp only [PyData.eqv, PyData.eqvAll, Bool.and_eq_true, Bool.and_true, P4.mk.injEq]
  rw [Eqv.eqv x1 y1, Eqv.eqv x2 y2, Eqv.eqv x3 y3, Eqv.eqv x4 y4], Eqv.d α + Eqv.d β + Eqv.d γ + Eqv.d δ + 1, fun x => by
  obtain ⟨x1, x2, x3, x4⟩ := x
  show PyData.depth (.tuple [toPy x1, toPy x2, toPy x3, toPy x4]) ≤ _
  have h1 := Eqv.shape x1
  have h2 := Eqv.shape x2
  have h3 := Eqv.shape x3
  have h4 := Eqv.shape x4
  simp only [PyData.depth, PyData.depthAll]
  omega⟩
theorem eqD_iff {α : Type} [Py α] [Eqv α] {x y : α} : eqD x y = true ↔ x = y := Eqv.eqv x y
theorem eqD_dec {α : Type} [Py α] [Eqv α] [DecidableEq α] {x y : α} : eqD x y = decide (x = y) := by
  by_cases h : x = y
  · rw [decide_eq_true h]; exact eqD_iff.mpr h
  · rw [decide_eq_false h]
    cases e : eqD x y with
    | false => rfl
    | true => exact absurd (eqD_iff.mp e) h
theorem eqD_self {α : Type} [Py α] [Eqv α] (x : α) : eqD x x = true := eqD_iff.mpr rfl
/-- what may be laid at all: the texts in it are of signs that there are -/
class Lay (α : Type) [Py α] where
  ok : α → Prop
  lay : ∀ x : α, ok x → (toPy x).canLay0 = true
theorem canLayAll_map {α : Type} [Py α] [Lay α] : ∀ xs : List α, (∀ x ∈ xs, Lay.ok x) → PyData.canLayAll0 (xs.map Py.toPy) = true
  | [], _ => by simp [PyData.canLayAll0]
  | x :: xs, h => by
    simp only [List.map_cons, PyData.canLayAll0, Bool.and_eq_true]
    exact ⟨Lay.lay x (h x List.mem_cons_self), canLayAll_map xs fun y hy => h y (List.mem_cons_of_mem _ hy)⟩
instance : Lay Int := ⟨fun _ => True, fun x _ => by simp [toPy, Py.toPy, PyData.canLay0]⟩
instance : Lay Bool := ⟨fun _ => True, fun x _ => by simp [toPy, Py.toPy, PyData.canLay0]⟩
instance : Lay Str := ⟨fun x => PyData.strOk x = true, fun x h => by simpa [toPy, Py.toPy, PyData.canLay0] using h⟩
instance {α : Type} [Py α] [Lay α] : Lay (List α) := ⟨fun xs => ∀ x ∈ xs, Lay.ok x, fun xs h => by
  show PyData.canLay0 (.list (xs.map Py.toPy)) = true
  simp only [PyData.canLay0]
  exact canLayAll_map xs h⟩
instance {α β : Type} [Py α] [Py β] [Lay α] [Lay β] : Lay (α × β) := ⟨fun x => Lay.ok x.1 ∧ Lay.ok x.2, fun x h => by
  show PyData.canLay0 (.tuple [toPy x.1, toPy x.2]) = true
  simp only [PyData.canLay0, PyData.canLayAll0, Bool.and_eq_true, Bool.and_true]
  exact ⟨Lay.lay _ h.1, Lay.lay _ h.2⟩⟩
instance {α β γ : Type} [Py α] [Py β] [Py γ] [Lay α] [Lay β] [Lay γ] : Lay (P3 α β γ) := ⟨fun x => Lay.ok x.a ∧ Lay.ok x.b ∧ Lay.ok x.c, fun x h => by
  show PyData.canLay0 (.tuple [toPy x.a, toPy x.b, toPy x.c]) = true
  simp only [PyData.canLay0, PyData.canLayAll0, Bool.and_eq_true, Bool.and_true]
  exact ⟨Lay.lay _ h.1, Lay.lay _ h.2.1, Lay.lay _ h.2.2⟩⟩
instance {α β γ δ : Type} [Py α] [Py β] [Py γ] [Py δ] [Lay α] [Lay β] [Lay γ] [Lay δ] : Lay (P4 α β γ δ) := ⟨fun x => Lay.ok x.a ∧ Lay.ok x.b ∧ Lay.ok x.c ∧ Lay.ok x.d, fun x h => by
  show PyData.canLay0 (.tuple [toPy x.a, toPy x.b, toPy x.c, toPy x.d]) = true
  simp only [PyData.canLay0, PyData.canLayAll0, Bool.and_eq_true, Bool.and_true]
  exact ⟨Lay.lay _ h.1, Lay.lay _ h.2.1, Lay.lay _ h.2.2.1, Lay.lay _ h.2.2.2⟩⟩
theorem okD_of {α : Type} [Py α] [Eqv α] [Lay α] {x : α} (h : Lay.ok x) (hd : Eqv.d α ≤ 64 := by decide) : okD x := by
  unfold okD SeqAt.shaped
  rw [Bool.and_eq_true]
  exact ⟨Lay.lay x h, decide_eq_true (Nat.le_trans (Eqv.shape x) hd)⟩
end Z

namespace M
open PySem L2 Z

def m_names_L1 (hand_ : Int) (kind_ : Str) (cell_ : Int) (many_ : (List Int)) (found_ : (List (Int × Int))) : W ((List Int) × (List (Int × Int))) :=
  W.bind (W.bind (W.opt (atI many_ hand_)) fun t91 => W.ret (hand_, t91)) fun t99 => W.bind (apd found_ t99) fun found_ => W.bind (W.ret hand_) fun t106 => W.bind (W.opt (atI many_ t106)) fun t107 => W.bind (W.ret (1 : Int)) fun t108 => W.bind (sti many_ t106 (t107 + t108)) fun many_ => W.ret (many_, found_)
def m_names_R1 (many_ : (List Int)) (found_ : (List (Int × Int))) : W (List (Int × Int)) :=
  W.ret found_
def m_names (web_ : (List (P3 Int Str Int))) : W (List (Int × Int)) :=
  W.bind (W.guard (-(2 ^ 63) ≤ (8 : Int) ∧ (8 : Int) < 2 ^ 63 ∧ (([(0 : Int)] : (List Int))).length * ((8 : Int)).toNat ≤ sizeLine) (W.ret ((List.replicate ((8 : Int)).toNat ([(0 : Int)] : (List Int))).flatten))) fun many_ => W.bind (W.ret ([] : (List (Int × Int)))) fun found_ => W.bind (W.forL web_ (many_, found_) (fun a s => m_names_L1 a.a a.b a.c s.1 s.2)) (fun s => m_names_R1 s.1 s.2)
def m_touches_meet (one_ : (P3 Int Str Int)) (other_ : (P3 Int Str Int)) : W Bool :=
  W.bind (W.bind (W.ite (decide (one_.a = other_.a)) (W.ret true) (W.ret (!decide (one_.c = other_.c)))) fun t1 => W.ret t1) fun t8 => W.ite t8 (W.bind (W.ret false) fun t19 => W.ret t19) (W.bind (W.bind (W.ite (!decide (one_.b = ("load" : Str))) (W.ret true) (W.ret (!decide (other_.b = ("load" : Str))))) fun t31 => W.ret t31) fun t32 => W.ret t32)
def m_is_step (web_ : (List (P3 Int Str Int))) (i_ : Int) (j_ : Int) : W Bool :=
  W.bind (W.bind (W.opt (atI web_ i_)) fun t10 => W.bind (W.opt (atI web_ j_)) fun t11 => W.bind (W.ite (decide (t10.a = t11.a)) (W.ret true) (W.bind (W.opt (atI web_ i_)) fun t12 => W.bind (W.opt (atI web_ j_)) fun t13 => W.bind (m_touches_meet t12 t13) fun t14 => W.ret t14)) fun t15 => W.ret t15) fun t16 => W.ret t16
def m_looked_back_R1 (known_ : (List Int)) (firsts_ : (List Int)) : W ((List Int) × (List Int)) :=
  W.ret (known_, firsts_)
def m_looked_back_L1 (web_ : (List (P3 Int Str Int))) (called_ : (List (Int × Int))) (table_ : (List (List Int))) (j_ : Int) (i_ : Int) (known_ : (List Int)) (firsts_ : (List Int)) : W ((List Int) × (List Int)) :=
  W.bind (W.bind (W.opt (atI called_ i_)) fun t88 => W.ret t88) fun t94 => W.bind (W.ret t94.1) fun hand_ => W.bind (W.ret t94.2) fun k_ => W.bind (W.bind (W.opt (atI known_ hand_)) fun t101 => W.bind (W.ite (decide (k_ ≥ t101)) (W.bind (m_is_step web_ i_ j_) fun t102 => W.ret t102) (W.ret false)) fun t103 => W.ret t103) fun t110 => W.bind (W.ite t110 (W.bind (W.bind (W.opt (atI table_ i_)) fun t178 => W.bind (compG (List.zip known_ t178) (fun a183 => (fun a_ b_ => W.ret true) a183.1 a183.2) (fun a183 => (fun a_ b_ => W.ret (if b_ > a_ then b_ else a_)) a183.1 a183.2)) fun t188 => W.ret t188) fun known_ => W.bind (W.bind (W.opt (atI called_ j_)) fun t199 => W.ret (!decide (hand_ = t199.1))) fun t206 => W.bind (W.ite t206 (W.bind (W.ret i_) fun t226 => W.bind (apd firsts_ t226) fun firsts_ => W.ret firsts_) (W.ret firsts_)) (fun firsts_ => W.ret (known_, firsts_))) (W.ret (known_, firsts_))) (fun s => m_looked_back_R1 s.1 s.2)
def m_looked_back_R2 (called_ : (List (Int × Int))) (j_ : Int) (known_ : (List Int)) (firsts_ : (List Int)) : W ((List Int) × (List Int)) :=
  W.bind (W.bind (W.opt (atI called_ j_)) fun t277 => W.ret (t277.2 + (1 : Int))) fun t285 => W.bind (W.bind (W.opt (atI called_ j_)) fun t278 => W.ret t278.1) fun t286 => W.bind (sti known_ t286 t285) fun known_ => W.bind (W.ret (known_, firsts_)) fun t316 => W.ret t316
def m_looked_back (web_ : (List (P3 Int Str Int))) (called_ : (List (Int × Int))) (table_ : (List (List Int))) (j_ : Int) : W ((List Int) × (List Int)) :=
  W.bind (W.guard (-(2 ^ 63) ≤ (8 : Int) ∧ (8 : Int) < 2 ^ 63 ∧ (([(0 : Int)] : (List Int))).length * ((8 : Int)).toNat ≤ sizeLine) (W.ret ((List.replicate ((8 : Int)).toNat ([(0 : Int)] : (List Int))).flatten))) fun known_ => W.bind (W.ret ([] : (List Int))) fun firsts_ => W.bind (W.guard (rngOk (-(1 : Int)) (j_ - (1 : Int))) (W.ret (rngD (j_ - (1 : Int)) (-(1 : Int))))) fun t318 => W.bind (W.forL t318 (known_, firsts_) (fun a s => m_looked_back_L1 web_ called_ table_ j_ a s.1 s.2)) (fun s => m_looked_back_R2 called_ j_ s.1 s.2)
def m_notes_L1 (web_ : (List (P3 Int Str Int))) (called_ : (List (Int × Int))) (j_ : Int) (table_ : (List (List Int))) (found_ : (List (P4 Int Int Int Int))) : W ((List (List Int)) × (List (P4 Int Int Int Int))) :=
  W.bind (W.bind (m_looked_back web_ called_ table_ j_) fun t96 => W.ret t96) fun t102 => W.bind (W.ret t102.1) fun known_ => W.bind (W.ret t102.2) fun firsts_ => W.bind (W.ret known_) fun t116 => W.bind (apd table_ t116) fun table_ => W.bind (W.bind (compG firsts_ (fun i_ => W.ret true) (fun i_ => W.bind (W.opt (atI called_ i_)) fun t123 => W.bind (W.opt (atI called_ j_)) fun t124 => W.ret (⟨t123.1, t123.2, t124.1, t124.2⟩ : (P4 Int Int Int Int)))) fun t126 => W.ret t126) fun t133 => W.bind (exd found_ t133) fun found_ => W.ret (table_, found_)
def m_notes_R1 (table_ : (List (List Int))) (found_ : (List (P4 Int Int Int Int))) : W (List (P4 Int Int Int Int)) :=
  W.bind (W.ret (srtK found_)) fun t161 => W.ret t161
def m_notes (web_ : (List (P3 Int Str Int))) : W (List (P4 Int Int Int Int)) :=
  W.bind (W.bind (m_names web_) fun t1 => W.ret t1) fun called_ => W.bind (W.ret ([] : (List (List Int)))) fun table_ => W.bind (W.ret ([] : (List (P4 Int Int Int Int)))) fun found_ => W.bind (W.ret ((web_).length : Int)) fun t163 => W.guard (rngOk 0 t163) (W.bind (W.forL (rng 0 t163) (table_, found_) (fun a s => m_notes_L1 web_ called_ a s.1 s.2)) (fun s => m_notes_R1 s.1 s.2))
def m_law_spring_L1 (cell_ : Int) (figures_ : Int) (stir_ : Int) : W (Int × Int) :=
  W.bind (W.guard (CPow (10 : Int) (18 : Int)) (W.ret (decide ((if cell_ < 0 then -cell_ else cell_) ≥ ((10 : Int) ^ ((18 : Int)).toNat))))) fun t73 => W.bind (W.ite t73 (W.bind (W.guard (CPow (10 : Int) (60 : Int)) (W.guard (CMulW figures_ ((10 : Int) ^ ((60 : Int)).toNat)) (W.guard (CPow (10 : Int) (60 : Int)) (W.guard (0 < ((10 : Int) ^ ((60 : Int)).toNat)) (W.ret ((figures_ * ((10 : Int) ^ ((60 : Int)).toNat)) + ((if cell_ < 0 then -cell_ else cell_) % ((10 : Int) ^ ((60 : Int)).toNat)))))))) fun figures_ => W.ret figures_) (W.ret figures_)) (fun figures_ => W.bind (W.guard (CMulW stir_ (69069 : Int)) (W.guard (0 < (2305843009213693921 : Int)) (W.guard (0 < (2305843009213693951 : Int)) (W.ret ((((stir_ * (69069 : Int)) + (cell_ % (2305843009213693921 : Int))) + (7 : Int)) % (2305843009213693951 : Int)))))) fun stir_ => W.ret (figures_, stir_))
def m_law_spring_R1 (figures_ : Int) (stir_ : Int) : W (List Int) :=
  W.bind (W.ret ([figures_, stir_, (0 : Int)] : (List Int))) fun t140 => W.ret t140
def m_law_spring (script_ : (List Int)) : W (List Int) :=
  W.bind (W.ret (0 : Int)) fun figures_ => W.bind (W.ret (88651 : Int)) fun stir_ => W.bind (W.ret (Z.cut script_ none (some (63 : Int)))) fun t142 => W.bind (W.forL t142 (figures_, stir_) (fun a s => m_law_spring_L1 a s.1 s.2)) (fun s => m_law_spring_R1 s.1 s.2)
def m_law_draw (spring_ : (List Int)) (many_ : Int) : W (Int × (List Int)) :=
  W.bind (W.bind (W.opt (atI spring_ (0 : Int))) fun t1 => W.ret (decide (t1 > (0 : Int)))) fun t8 => W.ite t8 (W.bind (W.bind (W.opt (atI spring_ (0 : Int))) fun t10 => W.guard (0 < many_) (W.ret (t10 % many_))) fun found_ => W.bind (W.bind (W.opt (atI spring_ (0 : Int))) fun t21 => W.guard (CDivW t21 many_) (W.ret (t21 / many_))) fun t28 => W.bind (W.ret (0 : Int)) fun t29 => W.bind (sti spring_ t29 t28) fun spring_ => W.bind (W.ret found_) fun t40 => W.ret (t40, spring_)) (W.bind (W.bind (W.opt (atI spring_ (2 : Int))) fun t45 => W.ret (t45 + (1 : Int))) fun t52 => W.bind (W.ret (2 : Int)) fun t53 => W.bind (sti spring_ t53 t52) fun spring_ => W.bind (W.bind (W.opt (atI spring_ (1 : Int))) fun t55 => W.bind (W.opt (atI spring_ (1 : Int))) fun t56 => W.guard (CMulW t55 t56) (W.guard (0 < (2305843009213693951 : Int)) (W.ret ((t55 * t56) % (2305843009213693951 : Int))))) fun stir_ => W.bind (W.bind (W.opt (atI spring_ (2 : Int))) fun t67 => W.guard (CMulW (7919 : Int) t67) (W.bind (W.opt (atI spring_ (1 : Int))) fun t68 => W.guard (CMulW ((7919 : Int) * t67) t68) (W.guard (0 < (2305843009213693951 : Int)) (W.ret (((stir_ + (((7919 : Int) * t67) * t68)) + (104729 : Int)) % (2305843009213693951 : Int)))))) fun t75 => W.bind (W.ret (1 : Int)) fun t76 => W.bind (sti spring_ t76 t75) fun spring_ => W.bind (W.bind (W.opt (atI spring_ (1 : Int))) fun t87 => W.guard (CDivW t87 (65537 : Int)) (W.guard (0 < many_) (W.ret ((t87 / (65537 : Int)) % many_)))) fun t88 => W.ret (t88, spring_))
def m_law_web_L1 (hands_ : Int) (first_ : Int) (room_ : Int) (base_ : Int) (kinds_ : (List Str)) (at_ : Int) (spring_ : (List Int)) (web_ : (List (P3 Int Str Int))) : W ((List Int) × (List (P3 Int Str Int))) :=
  W.bind2 (W.bind2 (m_law_draw spring_ hands_) fun t221 s222 => W.guard (0 < (8 : Int)) (W.ret (((first_ + t221) % (8 : Int)), s222))) fun hand_ spring_ => W.bind2 (W.bind2 (m_law_draw spring_ ((kinds_).length : Int)) fun t235 s236 => W.bind (W.opt (atI kinds_ t235)) fun t237 => W.ret (t237, s236)) fun kind_ spring_ => W.bind2 (W.bind2 (m_law_draw spring_ room_) fun t250 s251 => W.guard (0 < (20 : Int)) (W.ret ((⟨hand_, kind_, ((base_ + t250) % (20 : Int))⟩ : (P3 Int Str Int)), s251))) fun t260 spring_ => W.bind (apd web_ t260) fun web_ => W.ret (spring_, web_)
def m_law_web_R1 (spring_ : (List Int)) (web_ : (List (P3 Int Str Int))) : W ((List (P3 Int Str Int)) × (List Int)) :=
  W.ret (web_, spring_)
def m_law_web_R2 (size_ : Int) (hands_ : Int) (first_ : Int) (room_ : Int) (base_ : Int) (spring_ : (List Int)) (kinds_ : (List Str)) : W ((List (P3 Int Str Int)) × (List Int)) :=
  W.bind (W.ret ([] : (List (P3 Int Str Int)))) fun web_ => W.bind (W.ret size_) fun t289 => W.guard (rngOk 0 t289) (W.bind (W.forL (rng 0 t289) (spring_, web_) (fun a s => m_law_web_L1 hands_ first_ room_ base_ kinds_ a s.1 s.2)) (fun s => m_law_web_R1 s.1 s.2))
def m_law_web (spring_ : (List Int)) (most_ : Int) : W ((List (P3 Int Str Int)) × (List Int)) :=
  W.bind2 (W.bind2 (m_law_draw spring_ (32 : Int)) fun t1 s2 => W.ret (t1, s2)) fun shape_ spring_ => W.bind2 (W.guard (0 < (8 : Int)) (W.bind (W.opt (atI ([(31 : Int), (101 : Int), (most_ + (1 : Int))] : (List Int)) ((if (decide ((shape_ % (8 : Int)) = (7 : Int))) then (1 : Int) else 0) + (if (decide (shape_ = (31 : Int))) then (1 : Int) else 0)))) fun t15 => W.bind2 (m_law_draw spring_ t15) fun t16 s17 => W.ret (t16, s17))) fun size_ spring_ => W.bind2 (W.bind2 (m_law_draw spring_ (8 : Int)) fun t30 s31 => W.ret (((1 : Int) + t30), s31)) fun hands_ spring_ => W.bind2 (W.bind2 (m_law_draw spring_ (8 : Int)) fun t44 s45 => W.ret (t44, s45)) fun first_ spring_ => W.bind2 (W.bind2 (m_law_draw spring_ (5 : Int)) fun t58 s59 => W.bind (W.opt (atI ([(1 : Int), (2 : Int), (3 : Int), (5 : Int), (20 : Int)] : (List Int)) t58)) fun t60 => W.ret (t60, s59)) fun room_ spring_ => W.bind2 (W.bind2 (m_law_draw spring_ (20 : Int)) fun t73 s74 => W.ret (t73, s74)) fun base_ spring_ => W.bind (W.ret ([("load" : Str), ("store" : Str), ("swap" : Str)] : (List Str))) fun kinds_ => W.bind2 (W.bind2 (m_law_draw spring_ (3 : Int)) fun t97 s98 => W.ret ((decide (t97 = (1 : Int))), s98)) fun t105 spring_ => W.bind (W.ite t105 (W.bind (W.ret ([("load" : Str), ("load" : Str), ("load" : Str), ("load" : Str), ("store" : Str), ("swap" : Str)] : (List Str))) fun kinds_ => W.ret (spring_, kinds_)) (W.ret (spring_, kinds_))) (fun s => m_law_web_R2 size_ hands_ first_ room_ base_ s.1 s.2)
def m_law_calls_L1 (hand_ : Int) (kind_ : Str) (cell_ : Int) (many_ : (List Int)) (found_ : (List (Int × Int))) : W ((List Int) × (List (Int × Int))) :=
  W.bind (W.bind (W.opt (atI many_ hand_)) fun t91 => W.ret (hand_, t91)) fun t99 => W.bind (apd found_ t99) fun found_ => W.bind (W.bind (W.opt (atI many_ hand_)) fun t100 => W.ret (t100 + (1 : Int))) fun t107 => W.bind (W.ret hand_) fun t108 => W.bind (sti many_ t108 t107) fun many_ => W.ret (many_, found_)
def m_law_calls_R1 (many_ : (List Int)) (found_ : (List (Int × Int))) : W (List (Int × Int)) :=
  W.ret found_
def m_law_calls (web_ : (List (P3 Int Str Int))) : W (List (Int × Int)) :=
  W.bind (W.guard (-(2 ^ 63) ≤ (8 : Int) ∧ (8 : Int) < 2 ^ 63 ∧ (([(0 : Int)] : (List Int))).length * ((8 : Int)).toNat ≤ sizeLine) (W.ret ((List.replicate ((8 : Int)).toNat ([(0 : Int)] : (List Int))).flatten))) fun many_ => W.bind (W.ret ([] : (List (Int × Int)))) fun found_ => W.bind (W.forL web_ (many_, found_) (fun a s => m_law_calls_L1 a.a a.b a.c s.1 s.2)) (fun s => m_law_calls_R1 s.1 s.2)
def m_law_meets (one_ : (P3 Int Str Int)) (other_ : (P3 Int Str Int)) : W Bool :=
  W.bind (W.bind (W.ite (decide (one_.a = other_.a)) (W.ret true) (W.ret (!decide (one_.c = other_.c)))) fun t1 => W.ret t1) fun t8 => W.ite t8 (W.bind (W.ret false) fun t19 => W.ret t19) (W.bind (W.bind (W.ite (!decide (one_.b = ("load" : Str))) (W.ret true) (W.ret (!decide (other_.b = ("load" : Str))))) fun t31 => W.ret t31) fun t32 => W.ret t32)
def m_law_step (one_ : (P3 Int Str Int)) (other_ : (P3 Int Str Int)) : W Bool :=
  W.bind (W.bind (W.ite (decide (one_.a = other_.a)) (W.ret true) (W.bind (m_law_meets one_ other_) fun t10 => W.ret t10)) fun t11 => W.ret t11) fun t12 => W.ret t12
def m_law_table_L2 (web_ : (List (P3 Int Str Int))) (table_ : (List (List Int))) (j_ : Int) (i_ : Int) (row_ : (List Int)) : W (List Int) :=
  W.bind (W.bind (W.opt (atI web_ i_)) fun t128 => W.bind (W.opt (atI web_ j_)) fun t129 => W.bind (m_law_step t128 t129) fun t130 => W.ret t130) fun t137 => W.bind (W.ite t137 (W.bind (W.guard (rngOk 0 (8 : Int)) (W.bind (compG (rng 0 (8 : Int)) (fun hand_ => W.ret true) (fun hand_ => W.bind (W.opt (atI row_ hand_)) fun t169 => W.bind (W.opt (atI table_ i_)) fun t170 => W.bind (W.opt (atI t170 hand_)) fun t171 => W.ret (if t171 > t169 then t171 else t169))) fun t173 => W.ret t173)) fun row_ => W.ret row_) (W.ret row_)) (fun row_ => W.ret row_)
def m_law_table_L1 (web_ : (List (P3 Int Str Int))) (calls_ : (List (Int × Int))) (j_ : Int) (table_ : (List (List Int))) : W (List (List Int)) :=
  W.bind (W.guard (-(2 ^ 63) ≤ (8 : Int) ∧ (8 : Int) < 2 ^ 63 ∧ (([(0 : Int)] : (List Int))).length * ((8 : Int)).toNat ≤ sizeLine) (W.ret ((List.replicate ((8 : Int)).toNat ([(0 : Int)] : (List Int))).flatten))) fun row_ => W.bind (W.ret j_) fun t236 => W.guard (rngOk 0 t236) (W.bind (W.forL (rng 0 t236) row_ (fun a s => m_law_table_L2 web_ table_ j_ a s)) (fun row_ => W.bind (W.bind (W.opt (atI calls_ j_)) fun t212 => W.ret (t212.2 + (1 : Int))) fun t220 => W.bind (W.bind (W.opt (atI calls_ j_)) fun t213 => W.ret t213.1) fun t221 => W.bind (sti row_ t221 t220) fun row_ => W.bind (W.ret row_) fun t235 => W.bind (apd table_ t235) fun table_ => W.ret table_))
def m_law_table (web_ : (List (P3 Int Str Int))) (calls_ : (List (Int × Int))) : W (List (List Int)) :=
  W.bind (W.ret ([] : (List (List Int)))) fun table_ => W.bind (W.ret ((web_).length : Int)) fun t260 => W.guard (rngOk 0 t260) (W.bind (W.forL (rng 0 t260) table_ (fun a s => m_law_table_L1 web_ calls_ a s)) (fun table_ => W.ret table_))
def m_law_notes_L2 (web_ : (List (P3 Int Str Int))) (calls_ : (List (Int × Int))) (table_ : (List (List Int))) (j_ : Int) (firsts_ : (List Int)) (i_ : Int) (pairs_ : (List (Int × Int))) : W (List (Int × Int)) :=
  W.bind (W.bind (W.opt (atI calls_ i_)) fun t154 => W.ret t154) fun t160 => W.bind (W.ret t160.1) fun hand_ => W.bind (W.ret t160.2) fun k_ => W.bind (W.bind (compG firsts_ (fun x_ => W.bind (W.ite (decide (x_ > i_)) (W.bind (W.opt (atI table_ x_)) fun t173 => W.bind (W.opt (atI t173 hand_)) fun t174 => W.ret (decide (k_ < t174))) (W.ret false)) fun t175 => W.ret t175) (fun x_ => W.ret x_)) fun t177 => W.ret t177) fun between_ => W.bind (W.bind (W.opt (atI web_ j_)) fun t188 => W.bind (W.ite (!decide (hand_ = t188.a)) (W.guard (okD between_ ∧ okD ([] : (List Int))) (W.ret (eqD between_ ([] : (List Int))))) (W.ret false)) fun t189 => W.ret t189) fun t196 => W.bind (W.ite t196 (W.bind (W.ret (i_, j_)) fun t216 => W.bind (apd pairs_ t216) fun pairs_ => W.ret pairs_) (W.ret pairs_)) (fun pairs_ => W.ret pairs_)
def m_law_notes_L1 (web_ : (List (P3 Int Str Int))) (calls_ : (List (Int × Int))) (table_ : (List (List Int))) (j_ : Int) (pairs_ : (List (Int × Int))) : W (List (Int × Int)) :=
  W.bind (W.guard (rngOk 0 j_) (W.bind (compG (rng 0 j_) (fun i_ => W.bind (W.opt (atI web_ i_)) fun t81 => W.bind (W.opt (atI web_ j_)) fun t82 => W.bind (m_law_step t81 t82) fun t83 => W.ret t83) (fun i_ => W.ret i_)) fun t85 => W.ret t85)) fun firsts_ => W.bind (W.ret firsts_) fun t246 => W.bind (W.forL t246 pairs_ (fun a s => m_law_notes_L2 web_ calls_ table_ j_ firsts_ a s)) (fun pairs_ => W.ret pairs_)
def m_law_notes (web_ : (List (P3 Int Str Int))) (calls_ : (List (Int × Int))) (table_ : (List (List Int))) : W (List (Int × Int)) :=
  W.bind (W.ret ([] : (List (Int × Int)))) fun pairs_ => W.bind (W.ret ((web_).length : Int)) fun t273 => W.guard (rngOk 0 t273) (W.bind (W.forL (rng 0 t273) pairs_ (fun a s => m_law_notes_L1 web_ calls_ table_ a s)) (fun pairs_ => W.ret pairs_))
def m_law_named (calls_ : (List (Int × Int))) (pairs_ : (List (Int × Int))) : W (List (P4 Int Int Int Int)) :=
  W.bind (W.bind (compG pairs_ (fun a14 => (fun i_ j_ => W.ret true) a14.1 a14.2) (fun a14 => (fun i_ j_ => W.bind (W.opt (atI calls_ i_)) fun t17 => W.bind (W.opt (atI calls_ j_)) fun t18 => W.ret (⟨t17.1, t17.2, t18.1, t18.2⟩ : (P4 Int Int Int Int))) a14.1 a14.2)) fun t21 => W.ret (srtK t21)) fun t22 => W.ret t22
def m_law_whole (found_ : Int) : W Bool :=
  W.bind (W.bind (W.ite true (W.ret (!false)) (W.ret false)) fun t10 => W.ret t10) fun t11 => W.ret t11
def m_law_rows_L1 (row_ : (P4 Int Int Int Int)) : W (Ctl Bool Unit) :=
  W.bind (W.bind (W.ite (!true) (W.ret true) (W.bind (compG ([row_.a, row_.b, row_.c, row_.d] : (List Int)) (fun number_ => W.ret true) (fun number_ => W.bind (m_law_whole number_) fun t68 => W.ret t68)) fun t70 => W.ret (!((t70).all id)))) fun t71 => W.ret t71) fun t78 => W.ite t78 (W.bind (W.ret false) fun t89 => W.ret (Ctl.rt t89)) (W.ret (Ctl.nx ()))
def m_law_rows (found_ : (List (P4 Int Int Int Int))) (due_ : (List (P4 Int Int Int Int))) : W Bool :=
  W.bind (W.bind (W.ite (!true) (W.ret true) (W.ret (!decide (((found_).length : Int) = ((due_).length : Int))))) fun t1 => W.ret t1) fun t8 => W.ite t8 (W.bind (W.ret false) fun t19 => W.ret t19) (W.bind (W.forC found_ () (fun a s => m_law_rows_L1 a)) fun c => W.after c (fun _ => W.bind (W.guard (okD found_ ∧ okD due_) (W.ret (eqD found_ due_))) fun t110 => W.ret t110))
def m_law (script_ : (List Int)) : W Bool :=
  W.bind (W.bind (m_law_spring script_) fun t1 => W.ret t1) fun spring_ => W.bind2 (W.bind2 (m_law_web spring_ (300 : Int)) fun t12 s13 => W.ret (t12, s13)) fun web_ spring_ => W.bind (W.bind (m_law_calls web_) fun t26 => W.ret t26) fun calls_ => W.bind (W.bind (m_law_table web_ calls_) fun t37 => W.bind (m_law_notes web_ calls_ t37) fun t38 => W.bind (m_law_named calls_ t38) fun t39 => W.ret t39) fun due_ => W.bind (W.ret web_) fun handed_ => W.bind (W.bind (m_notes handed_) fun t60 => W.ret t60) fun found_ => W.bind (W.bind (m_law_rows found_ due_) fun t71 => W.bind (W.ite (!t71) (W.ret true) (W.guard (okD handed_ ∧ okD web_) (W.ret (!eqD handed_ web_)))) fun t72 => W.ret t72) fun t79 => W.ite t79 (W.bind (W.ret false) fun t90 => W.ret t90) (W.bind (W.ret (⟨(0 : Int), (0 : Int), (1 : Int), (0 : Int)⟩ : (P4 Int Int Int Int))) fun t100 => W.bind (apd found_ t100) fun found_ => W.bind (W.bind (m_notes handed_) fun t110 => W.bind (m_law_rows t110 due_) fun t111 => W.ret t111) fun t112 => W.ret t112)
end M

/-! # the law's drawing: spring, draw, web -/
namespace M
open PySem L2 Z
def SpOk (B : Nat) (s : List Int) : Prop := ∃ f t n : Int, s = [f, t, n] ∧ 0 ≤ t ∧ t < 2305843009213693951 ∧ 0 ≤ n ∧ n ≤ B
theorem SpOk.mo {B C : Nat} {s : List Int} (h : SpOk B s) (hc : B ≤ C) : SpOk C s := by
  obtain ⟨f, t, n, e, h1, h2, h3, h4⟩ := h
  exact ⟨f, t, n, e, h1, h2, h3, by omega⟩
theorem nat_lt_pow {x : Int} {n : Nat} (h0 : 0 ≤ x) (h : x < (2 ^ n : Nat)) : x.natAbs < 2 ^ n := by omega
theorem at0 {a b c : Int} : atI [a, b, c] (0 : Int) = some a := rfl
theorem at1 {a b c : Int} : atI [a, b, c] (1 : Int) = some b := rfl
theorem at2 {a b c : Int} : atI [a, b, c] (2 : Int) = some c := rfl
theorem draw_wp {B : Nat} {s : List Int} {many : Int} {Φ : Int × List Int → Prop} (hs : SpOk B s) (hB : B < 2 ^ 40) (h0 : 0 < many) (hm : many < 2 ^ 100)
    (k : ∀ x s', 0 ≤ x → x < many → SpOk (B + 1) s' → Φ (x, s')) : (m_law_draw s many).run Φ := by
  obtain ⟨f, t, n, rfl, ht0, ht, hn0, hn⟩ := hs
  have hmn : many.natAbs < 2 ^ 100 := by omega
  have cd : ∀ x : Int, CDivW x many := fun x => wide_div h0 hmn (by decide) (by decide)
  unfold m_law_draw
  simp only [run_bind, run_ite, run_opt, run_guard, run_rt, at0, Option.some.injEq, exists_eq_left', decide_eq_true_eq, decide_eq_false_iff_not]
  refine ⟨fun hf => ⟨h0, cd _, ?_⟩, fun hf => ?_⟩
  · refine sti_wp (by decide) (by show (0 : Int) < 3; decide) ?_
    exact k _ _ (Int.emod_nonneg _ (by omega)) (Int.emod_lt_of_pos _ h0) ⟨f / many, t, n, rfl, ht0, ht, hn0, by omega⟩
  · refine ⟨n, rfl, sti_wp (by decide) (by show (2 : Int) < 3; decide) ?_⟩
    show ∃ a, some t = some a ∧ _
    refine ⟨t, rfl, t, rfl, ?_, by decide, ?_⟩
    · exact wide_mul (a := 61) (b := 61) (by omega) (by omega) (by decide) (by decide) (by decide)
    · refine ⟨n + 1, rfl, ?_, t, rfl, ?_, by decide, sti_wp (by decide) (by show (1 : Int) < 3; decide) ?_⟩
      · exact wide_mul (a := 13) (b := 64) (by decide) (by omega) (by decide) (by decide) (by decide)
      · exact wide_mul (a := 77) (b := 61) (by omega) (by omega) (by decide) (by decide) (by decide)
      · have p0 : (0 : Int) < 2305843009213693951 := by decide
        refine ⟨_, rfl, ?_, h0, ?_⟩
        · exact wide_div (b := 17) (by decide) (by decide) (by decide) (by decide)
        · exact k _ _ (Int.emod_nonneg _ (by omega)) (Int.emod_lt_of_pos _ h0) ⟨f, _, n + 1, rfl, Int.emod_nonneg _ (by omega), Int.emod_lt_of_pos _ p0, by omega, by omega⟩
theorem ten60 : ((10 : Int) ^ ((60 : Int)).toNat) = 1000000000000000000000000000000000000000000000000000000000000 := by decide +kernel
theorem cpow60 : CPow (10 : Int) (60 : Int) := by unfold CPow; decide
theorem cpow18 : CPow (10 : Int) (18 : Int) := by unfold CPow; decide
theorem spring_wp {ns : List Int} {Φ : List Int → Prop} (hl : ns.length ≤ 63) (k : ∀ s, SpOk 0 s → Φ s) : (m_law_spring ns).run Φ := by
  unfold m_law_spring
  simp only [run_bind, run_rt]
  rw [cut_to (by decide)]
  refine forL_wp (fun i s => 0 ≤ s.1 ∧ s.1 < ((2 ^ (200 * i) : Nat) : Int) ∧ 0 ≤ s.2 ∧ s.2 < 2305843009213693951) ⟨by decide, by decide, by decide, by decide⟩ ?_ ?_
  · rintro i x ⟨f, t⟩ hx ⟨h1, h2, h3, h4⟩
    have hi : i < 63 := by
      have := (List.getElem?_eq_some_iff.mp hx).1
      rw [List.length_take] at this
      omega
    have p0 : (0 : Int) < 2305843009213693951 := by decide
    have hk : (2 : Nat) ^ (200 * (i + 1)) = 2 ^ (200 * i) * 2 ^ 200 := by rw [← Nat.pow_add]; congr 1
    have hbig : (2 : Nat) ^ (200 * i) ≤ 2 ^ 13000 := Nat.pow_le_pow_right (by decide) (by omega)
    have mono : (2 : Nat) ^ (200 * i) ≤ 2 ^ (200 * (i + 1)) := Nat.pow_le_pow_right (by decide) (by omega)
    dsimp only at h1 h2 h3 h4
    unfold m_law_spring_L1
    simp only [run_bind, run_ite, run_guard, run_rt, ten60]
    refine ⟨cpow18, fun _ => ⟨cpow60, ?_, cpow60, by decide, ?_⟩, fun _ => ?_⟩
    · have hf : f.natAbs < 2 ^ 13000 := by omega
      exact wide_mul (a := 13000) (b := 200) hf (by decide +kernel) (by decide) (by decide) (by decide)
    · refine ⟨?_, by decide, by decide, ?_⟩
      · exact wide_mul (a := 61) (b := 17) (by omega) (by decide) (by decide) (by decide) (by decide)
      · generalize hy : (if x < 0 then -x else x) = y
        have q0 : (0 : Int) < 1000000000000000000000000000000000000000000000000000000000000 := by decide
        have r1 := Int.emod_nonneg y (show (1000000000000000000000000000000000000000000000000000000000000 : Int) ≠ 0 by decide)
        have r2 := Int.emod_lt_of_pos y q0
        refine ⟨by omega, ?_, Int.emod_nonneg _ (by omega), Int.emod_lt_of_pos _ p0⟩
        rw [hk]
        have c : ((2 ^ 200 : Nat) : Int) = 1606938044258990275541962092341162602522202993782792835301376 := by decide +kernel
        generalize hA : (2 : Nat) ^ (200 * i) = A at h2
        rw [Int.natCast_mul, c]
        have : (f + 1) * 1606938044258990275541962092341162602522202993782792835301376 ≤ (A : Int) * 1606938044258990275541962092341162602522202993782792835301376 := Int.mul_le_mul_of_nonneg_right (by omega) (by decide)
        omega
    · refine ⟨?_, by decide, by decide, ?_⟩
      · exact wide_mul (a := 61) (b := 17) (by omega) (by decide) (by decide) (by decide) (by decide)
      · exact ⟨h1, by omega, Int.emod_nonneg _ (by omega), Int.emod_lt_of_pos _ p0⟩
  · rintro ⟨f, t⟩ ⟨h1, h2, h3, h4⟩
    exact k _ ⟨f, t, 0, rfl, h3, h4, by decide, by decide⟩
/-- a web that may be handed in -/
structure ToOk (t : P3 Int Str Int) : Prop where
  h0 : 0 ≤ t.a
  h8 : t.a < 8
  kd : t.b = "load" ∨ t.b = "store" ∨ t.b = "swap"
  c0 : 0 ≤ t.c
  c20 : t.c < 20
def WebOk (web : List (P3 Int Str Int)) : Prop := (∀ t ∈ web, ToOk t) ∧ web.length ≤ 300
theorem web_wp {B : Nat} {s : List Int} {most : Int} {Φ : List (P3 Int Str Int) × List Int → Prop} (hs : SpOk B s) (hB : B < 2 ^ 39) (h0 : 0 ≤ most) (hm : most ≤ 300)
    (k : ∀ web s', WebOk web → (web.length : Int) ≤ max 100 most → SpOk (B + 1000) s' → Φ (web, s')) : (m_law_web s most).run Φ := by
  unfold m_law_web
  simp only [run_bind, run_bind2, run_rt, run_guard, run_opt]
  refine draw_wp hs (by omega) (by decide) (by decide) fun shape s1 a1 a2 hs1 => ?_
  dsimp only
  refine ⟨by decide, ?_⟩
  obtain ⟨i, hi, hsz⟩ : ∃ i : Int, ((if decide (shape % 8 = 7) then (1 : Int) else 0) + if decide (shape = 31) then (1 : Int) else 0) = i ∧ 0 ≤ i ∧ i < 3 := by
    refine ⟨_, rfl, ?_⟩
    by_cases c1 : shape % 8 = 7 <;> by_cases c2 : shape = 31 <;> simp [c1, c2]
  rw [hi]
  obtain ⟨top, htop, etop⟩ := atI_some (xs := [(31 : Int), 101, most + 1]) hsz.1 hsz.2
  have ht : 0 < top ∧ top ≤ max 101 (most + 1) := by
    simp only [List.mem_cons, List.not_mem_nil, or_false] at htop
    omega
  refine ⟨top, etop, draw_wp hs1 (by omega) ht.1 (by omega) fun size s2 b1 b2 hs2 => ?_⟩
  dsimp only
  refine draw_wp hs2 (by omega) (by decide) (by decide) fun hands s3 c1 c2 hs3 => ?_
  dsimp only
  refine draw_wp hs3 (by omega) (by decide) (by decide) fun first s4 d1 d2 hs4 => ?_
  dsimp only
  refine draw_wp hs4 (by omega) (by decide) (by decide) fun r s5 e1 e2 hs5 => ?_
  dsimp only
  obtain ⟨room, hroom, eroom⟩ := atI_some (xs := [(1 : Int), 2, 3, 5, 20]) e1 (by simpa using e2)
  have hr : 0 < room ∧ room ≤ 20 := by
    simp only [List.mem_cons, List.not_mem_nil, or_false] at hroom
    omega
  refine ⟨room, eroom, ?_⟩
  refine draw_wp hs5 (by omega) (by decide) (by decide) fun base s6 f1 f2 hs6 => ?_
  dsimp only
  refine draw_wp hs6 (by omega) (by decide) (by decide) fun pick s7 g1 g2 hs7 => ?_
  dsimp only
  have rest : ∀ kinds : List Str, (∀ x ∈ kinds, x = "load" ∨ x = "store" ∨ x = "swap") → 0 < kinds.length → kinds.length ≤ 6 → (m_law_web_R2 size (1 + hands) first room base s7 kinds).run Φ := by
    intro kinds hk hk0 hk6
    unfold m_law_web_R2
    simp only [run_bind, run_rt, run_guard]
    refine ⟨⟨by decide, by decide, by omega, by omega⟩, ?_⟩
    have hlen : ((rng 0 size).length : Int) = size := by rw [rng_len]; omega
    refine forL_wp (fun i s => SpOk (B + 7 + 3 * i) s.1 ∧ (∀ t ∈ s.2, ToOk t) ∧ s.2.length = i) ⟨hs7, by simp, rfl⟩ ?_ ?_
    · rintro i x ⟨sp, web⟩ hx ⟨q1, q2, q3⟩
      have hi : i < (rng 0 size).length := (List.getElem?_eq_some_iff.mp hx).1
      have hi3 : i < 300 := by omega
      dsimp only at q1 q2 q3
      unfold m_law_web_L1
      simp only [run_bind, run_bind2, run_rt, run_guard, run_opt]
      refine draw_wp q1 (by omega) (by omega) (by omega) fun h s1 u1 u2 q1 => ⟨by decide, ?_⟩
      dsimp only
      refine draw_wp q1 (by omega) (by omega) (by omega) fun kd s2 v1 v2 q1 => ?_
      dsimp only
      obtain ⟨kind, hkind, ekind⟩ := atI_some (xs := kinds) v1 v2
      refine ⟨kind, ekind, ?_⟩
      refine draw_wp q1 (by omega) hr.1 (by omega) fun c s3 w1 w2 q1 => ⟨by decide, ?_⟩
      dsimp only
      refine apd_wp (by omega) ⟨q1.mo (by omega), ?_, ?_⟩
      · intro t ht
        rcases List.mem_append.mp ht with ht | ht
        · exact q2 t ht
        · rw [List.mem_singleton.mp ht]
          exact ⟨Int.emod_nonneg _ (by decide), Int.emod_lt_of_pos _ (by decide), hk _ hkind, Int.emod_nonneg _ (by decide), Int.emod_lt_of_pos _ (by decide)⟩
      · simp [q3]
    · rintro ⟨sp, web⟩ ⟨q1, q2, q3⟩
      dsimp only at q1 q2 q3
      unfold m_law_web_R1
      exact k web sp ⟨q2, by omega⟩ (by omega) (q1.mo (by omega))
  refine ⟨fun _ => rest _ (by simp) (by simp) (by simp), fun _ => rest _ (by simp) (by simp) (by simp)⟩
theorem str_lay (s : String) (h : PyData.strOk (s : Str) = true) : Lay.ok (s : Str) := h
theorem to_lay {t : P3 Int Str Int} (h : ToOk t) : Lay.ok t := by
  refine ⟨trivial, ?_, trivial⟩
  rcases h.kd with e | e | e <;> rw [e] <;> exact str_lay _ (by decide +kernel)
end M

/-! # what meets -/
namespace M
open PySem L2 Z
def meetS (s t : P3 Int Str Int) : Bool := if (decide (s.a = t.a) || !decide (s.c = t.c)) = true then false else (!decide (s.b = ("load" : Str)) || !decide (t.b = ("load" : Str)))
theorem meets_wp {s t : P3 Int Str Int} {Φ : Bool → Prop} (k : Φ (meetS s t)) : (m_touches_meet s t).run Φ := by
  unfold m_touches_meet
  simp only [run_bind, run_rt, run_if]
  unfold meetS at k
  generalize decide (s.a = t.a) = p at k ⊢
  generalize decide (s.c = t.c) = q at k ⊢
  generalize decide (s.b = ("load" : Str)) = r at k ⊢
  generalize decide (t.b = ("load" : Str)) = u at k ⊢
  cases p <;> cases q <;> cases r <;> cases u <;> simpa using k
theorem law_meets_wp {s t : P3 Int Str Int} {Φ : Bool → Prop} (k : Φ (meetS s t)) : (m_law_meets s t).run Φ := meets_wp k
end M

/-! # what each touch knows, in plain Lean -/
namespace M
open PySem L2 Z
def mx (a b : Int) : Int := if b > a then b else a
theorem mx_l {a b : Int} : a ≤ mx a b := by unfold mx; split <;> omega
theorem mx_r {a b : Int} : b ≤ mx a b := by unfold mx; split <;> omega
theorem mx_le {a b c : Int} (h1 : a ≤ c) (h2 : b ≤ c) : mx a b ≤ c := by unfold mx; split <;> omega
section
variable (hd : Nat → Nat) (st : Nat → Nat → Bool)
def cn (h : Nat) : Nat → Int
  | 0 => 0
  | x + 1 => cn h x + (if hd x = h then 1 else 0)
def supR (T : Nat → Nat → Int) (x h : Nat) : Nat → Int
  | 0 => 0
  | m + 1 => if st m x = true then mx (supR T x h m) (T m h) else supR T x h m
def rowF (T : Nat → Nat → Int) (x h : Nat) : Int := if h = hd x then cn hd (hd x) x + 1 else supR st T x h x
def tbF : Nat → Nat → Nat → Int
  | 0 => fun _ _ => 0
  | n + 1 => fun x h => if x = n then rowF hd st (tbF n) n h else tbF n x h
def TT (x h : Nat) : Int := tbF hd st (x + 1) x h
def supD (T : Nat → Nat → Int) (x h : Nat) : Nat → Int
  | 0 => 0
  | t + 1 => if st (x - 1 - t) x = true then mx (supD T x h t) (T (x - 1 - t) h) else supD T x h t
end
section
variable {hd : Nat → Nat} {st : Nat → Nat → Bool} {T T' : Nat → Nat → Int} {x h m t : Nat} {c : Int}
theorem tbF_eq : ∀ {n x : Nat}, x < n → tbF hd st n x h = TT hd st x h
  | 0, x, hx => by omega
  | n + 1, x, hx => by
    by_cases e : x = n
    · subst e; rfl
    · show (if x = n then _ else tbF hd st n x h) = _
      rw [if_neg e]
      exact tbF_eq (by omega)
theorem supR_congr (e : ∀ y, y < m → T y h = T' y h) : supR st T x h m = supR st T' x h m := by
  induction m with
  | zero => rfl
  | succ m ih =>
    show (if st m x = true then mx (supR st T x h m) (T m h) else supR st T x h m) = (if st m x = true then mx (supR st T' x h m) (T' m h) else supR st T' x h m)
    rw [ih fun y hy => e y (by omega), e m (by omega)]
theorem TT_eq : TT hd st x h = if h = hd x then cn hd (hd x) x + 1 else supR st (TT hd st) x h x := by
  show (if x = x then rowF hd st (tbF hd st x) x h else _) = _
  rw [if_pos rfl]
  unfold rowF
  rw [supR_congr fun y hy => tbF_eq hy]
theorem supR_nn : 0 ≤ supR st T x h m := by
  induction m with
  | zero => exact Int.le_refl 0
  | succ m ih =>
    show 0 ≤ (if st m x = true then mx (supR st T x h m) (T m h) else supR st T x h m)
    split
    · exact Int.le_trans ih mx_l
    · exact ih
theorem supR_ge {y : Nat} (hy : y < m) (hs : st y x = true) : T y h ≤ supR st T x h m := by
  induction m with
  | zero => omega
  | succ m ih =>
    show T y h ≤ (if st m x = true then mx (supR st T x h m) (T m h) else supR st T x h m)
    by_cases e : y = m
    · subst e
      rw [if_pos hs]; exact mx_r
    · have q := ih (by omega)
      split
      · exact Int.le_trans q mx_l
      · exact q
theorem supR_le (h0 : 0 ≤ c) (hc : ∀ y, y < m → st y x = true → T y h ≤ c) : supR st T x h m ≤ c := by
  induction m with
  | zero => exact h0
  | succ m ih =>
    show (if st m x = true then mx (supR st T x h m) (T m h) else supR st T x h m) ≤ c
    have q := ih fun y hy => hc y (by omega)
    split
    · rename_i e; exact mx_le q (hc m (by omega) e)
    · exact q
theorem supR_gt (h0 : 0 ≤ c) (hc : c < supR st T x h m) : ∃ y, y < m ∧ st y x = true ∧ c < T y h := by
  refine Classical.byContradiction fun q => ?_
  have := supR_le (st := st) (T := T) (x := x) (h := h) (m := m) h0 fun y hy hs => Classical.byContradiction fun z => q ⟨y, hy, hs, by omega⟩
  omega
theorem supD_nn : 0 ≤ supD st T x h t := by
  induction t with
  | zero => exact Int.le_refl 0
  | succ m ih =>
    show 0 ≤ (if st (x - 1 - m) x = true then mx (supD st T x h m) (T (x - 1 - m) h) else supD st T x h m)
    split
    · exact Int.le_trans ih mx_l
    · exact ih
theorem supD_ge {y : Nat} (ht : t ≤ x) (hy : x - t ≤ y) (hx : y < x) (hs : st y x = true) : T y h ≤ supD st T x h t := by
  induction t with
  | zero => omega
  | succ m ih =>
    show T y h ≤ (if st (x - 1 - m) x = true then mx (supD st T x h m) (T (x - 1 - m) h) else supD st T x h m)
    by_cases e : y = x - 1 - m
    · subst e
      rw [if_pos hs]; exact mx_r
    · have q := ih (by omega) (by omega)
      split
      · exact Int.le_trans q mx_l
      · exact q
theorem supD_le (ht : t ≤ x) (h0 : 0 ≤ c) (hc : ∀ y, x - t ≤ y → y < x → st y x = true → T y h ≤ c) : supD st T x h t ≤ c := by
  induction t with
  | zero => exact h0
  | succ m ih =>
    show (if st (x - 1 - m) x = true then mx (supD st T x h m) (T (x - 1 - m) h) else supD st T x h m) ≤ c
    have q := ih (by omega) fun y hy => hc y (by omega)
    split
    · rename_i e; exact mx_le q (hc _ (by omega) (by omega) e)
    · exact q
theorem supD_gt (ht : t ≤ x) (h0 : 0 ≤ c) (hc : c < supD st T x h t) : ∃ y, x - t ≤ y ∧ y < x ∧ st y x = true ∧ c < T y h := by
  refine Classical.byContradiction fun q => ?_
  have := supD_le (st := st) (T := T) (x := x) (h := h) (t := t) ht h0 fun y hy hx hs => Classical.byContradiction fun z => q ⟨y, hy, hx, hs, by omega⟩
  omega
theorem supD_full : supD st T x h x = supR st T x h x := Int.le_antisymm
  (supD_le (Nat.le_refl _) supR_nn fun y _ hx hs => supR_ge hx hs)
  (supR_le supD_nn fun y hy hs => supD_ge (Nat.le_refl _) (by omega) hy hs)
theorem cn_nn : 0 ≤ cn hd h x := by
  induction x with
  | zero => exact Int.le_refl 0
  | succ x ih =>
    show 0 ≤ cn hd h x + (if hd x = h then 1 else 0)
    split <;> omega
theorem cn_mono {y : Nat} (hy : y ≤ x) : cn hd h y ≤ cn hd h x := by
  induction x with
  | zero => rw [Nat.le_zero.mp hy]; exact Int.le_refl _
  | succ x ih =>
    by_cases e : y = x + 1
    · rw [e]; exact Int.le_refl _
    · have q := ih (by omega)
      show _ ≤ cn hd h x + (if hd x = h then 1 else 0)
      split <;> omega
theorem cn_own : cn hd (hd x) (x + 1) = cn hd (hd x) x + 1 := by
  show cn hd (hd x) x + (if hd x = hd x then 1 else 0) = _
  rw [if_pos rfl]
theorem TT_bd : ∀ x h : Nat, TT hd st x h ≤ cn hd h (x + 1) := by
  intro x
  induction x using Nat.strongRecOn with
  | ind x ih =>
    intro h
    rw [TT_eq]
    split
    · rename_i e; rw [e, cn_own]; exact Int.le_refl _
    · exact supR_le cn_nn fun y hy _ => Int.le_trans (ih y hy h) (cn_mono (by omega))
theorem TT_step {y : Nat} (hy : y < x) (hs : st y x = true) : TT hd st y h ≤ TT hd st x h := by
  rw [TT_eq (x := x)]
  split
  · rename_i e
    have q := TT_bd (hd := hd) (st := st) y h
    have q2 := cn_mono (hd := hd) (h := h) (y := y + 1) (x := x) (by omega)
    rw [← e]
    omega
  · exact supR_ge hy hs
theorem TT_trans (hst : ∀ y x, hd y = hd x → st y x = true) : ∀ x i : Nat, cn hd (hd i) i < TT hd st x (hd i) → i ≤ x ∧ ∀ h, TT hd st i h ≤ TT hd st x h := by
  intro x
  induction x using Nat.strongRecOn with
  | ind x ih =>
    intro i hi
    rw [TT_eq] at hi
    by_cases e : hd i = hd x
    · rw [if_pos e] at hi
      have hix : i ≤ x := by
        refine Classical.byContradiction fun q => ?_
        have q2 := cn_mono (hd := hd) (h := hd x) (y := x + 1) (x := i) (by omega)
        rw [cn_own] at q2
        rw [e] at hi
        omega
      refine ⟨hix, fun h => ?_⟩
      by_cases e2 : i = x
      · rw [e2]; exact Int.le_refl _
      · exact TT_step (by omega) (hst i x e)
    · rw [if_neg e] at hi
      obtain ⟨y, hy, hs, hl⟩ := supR_gt cn_nn hi
      obtain ⟨h1, h2⟩ := ih y hy i hl
      exact ⟨by omega, fun h => Int.le_trans (h2 h) (TT_step hy hs)⟩
/-- what is passed over changes nothing -/
theorem skip (hst : ∀ y x, hd y = hd x → st y x = true) (ht : t < x) (hk : cn hd (hd (x - 1 - t)) (x - 1 - t) < supD st (TT hd st) x (hd (x - 1 - t)) t) (h : Nat) : supD st (TT hd st) x h (t + 1) = supD st (TT hd st) x h t := by
  show (if st (x - 1 - t) x = true then mx (supD st (TT hd st) x h t) (TT hd st (x - 1 - t) h) else supD st (TT hd st) x h t) = _
  split
  · obtain ⟨y, hy, hx, hs, hl⟩ := supD_gt (by omega) cn_nn hk
    have q := (TT_trans hst y _ hl).2 h
    have q2 := supD_ge (T := TT hd st) (h := h) (by omega) hy hx hs
    unfold mx
    rw [if_neg (by omega)]
  · rfl
theorem TT_own : TT hd st x (hd x) = cn hd (hd x) x + 1 := by rw [TT_eq, if_pos rfl]
theorem TT_oth (e : h ≠ hd x) : TT hd st x h = supR st (TT hd st) x h x := by rw [TT_eq, if_neg e]
end
/-- a row of eight -/
def rowL (f : Nat → Int) : List Int := (List.range 8).map f
theorem case8 {P : Nat → Prop} {h : Nat} (hh : h < 8) (h0 : P 0) (h1 : P 1) (h2 : P 2) (h3 : P 3) (h4 : P 4) (h5 : P 5) (h6 : P 6) (h7 : P 7) : P h := by
  have : h = 0 ∨ h = 1 ∨ h = 2 ∨ h = 3 ∨ h = 4 ∨ h = 5 ∨ h = 6 ∨ h = 7 := by omega
  rcases this with rfl | rfl | rfl | rfl | rfl | rfl | rfl | rfl <;> assumption
theorem rowL_get {f : Nat → Int} {h : Nat} (hh : h < 8) : (rowL f)[h]? = some (f h) := case8 (P := fun h => (rowL f)[h]? = some (f h)) hh rfl rfl rfl rfl rfl rfl rfl rfl
theorem rowL_set {f : Nat → Int} {h : Nat} {v : Int} (hh : h < 8) : (rowL f).set h v = rowL fun x => if x = h then v else f x := case8 (P := fun h => (rowL f).set h v = rowL fun x => if x = h then v else f x) hh rfl rfl rfl rfl rfl rfl rfl rfl
theorem rowL_zip {f g : Nat → Int} : ((List.zip (rowL f) (rowL g)).filter fun _ => true).map (fun p => if p.2 > p.1 then p.2 else p.1) = rowL fun h => mx (f h) (g h) := rfl
theorem rowL_rng {f : Nat → Int} : ((rng 0 8).filter fun _ => true).map (fun h => f h.toNat) = rowL f := rfl
theorem rowL_zero : (List.replicate ((8 : Int)).toNat ([(0 : Int)] : List Int)).flatten = rowL fun _ => 0 := rfl
theorem rowL_len {f : Nat → Int} : (rowL f).length = 8 := rfl
theorem rowL_congr {f g : Nat → Int} (h : ∀ x, f x = g x) : rowL f = rowL g := by rw [show f = g from funext h]
end M

/-! # the names of touches -/
namespace M
open PySem L2 Z
def cnt (web : List (P3 Int Str Int)) (h : Int) : Nat := (web.filter fun t => decide (t.a = h)).length
theorem cnt_nil (h : Int) : cnt [] h = 0 := rfl
theorem cnt_snoc (web : List (P3 Int Str Int)) (t : P3 Int Str Int) (h : Int) : cnt (web ++ [t]) h = cnt web h + (if t.a = h then 1 else 0) := by
  unfold cnt
  rw [List.filter_append, List.length_append]
  by_cases c : t.a = h
  · simp [c]
  · simp [c]
def nmF : List (P3 Int Str Int) → List (Int × Int)
  | [] => []
  | t :: r => nmF r ++ [(t.a, (cnt r.reverse t.a : Int))]
/-- the names of a web's touches -/
def nmS (web : List (P3 Int Str Int)) : List (Int × Int) := nmF web.reverse
theorem nmS_nil : nmS [] = [] := rfl
theorem nmS_snoc (web : List (P3 Int Str Int)) (t : P3 Int Str Int) : nmS (web ++ [t]) = nmS web ++ [(t.a, (cnt web t.a : Int))] := by
  unfold nmS
  simp [nmF]
theorem nmS_len (web : List (P3 Int Str Int)) : (nmS web).length = web.length := by
  unfold nmS
  rw [← List.length_reverse (as := web)]
  generalize web.reverse = r
  induction r with
  | nil => rfl
  | cons t r ih => simp [nmF, ih]
theorem take_snoc {α : Type} {xs : List α} {i : Nat} {x : α} (h : xs[i]? = some x) : xs.take (i + 1) = xs.take i ++ [x] := by
  rw [List.take_add_one, h]
  rfl
theorem nmS_dropLast (web : List (P3 Int Str Int)) : nmS web.dropLast = (nmS web).dropLast := by
  rcases List.eq_nil_or_concat web with rfl | ⟨r, t, rfl⟩
  · rfl
  · rw [List.concat_eq_append, List.dropLast_concat, nmS_snoc, List.dropLast_concat]
theorem names_wp {web : List (P3 Int Str Int)} {Φ : List (Int × Int) → Prop} (hw : ∀ t ∈ web, ToOk t) (hl : web.length ≤ 1000) (k : Φ (nmS web)) : (m_names web).run Φ := by
  unfold m_names
  simp only [run_bind, run_rt, run_guard]
  refine ⟨by decide, ?_⟩
  refine forL_wp (fun i s => s.1.length = 8 ∧ (∀ h : Nat, h < 8 → s.1[h]? = some (cnt (web.take i) h : Int)) ∧ s.2 = nmS (web.take i)) ?_ ?_ ?_
  · refine ⟨by decide, fun h hh => ?_, rfl⟩
    have : h = 0 ∨ h = 1 ∨ h = 2 ∨ h = 3 ∨ h = 4 ∨ h = 5 ∨ h = 6 ∨ h = 7 := by omega
    rcases this with rfl | rfl | rfl | rfl | rfl | rfl | rfl | rfl <;> rfl
  · rintro i t ⟨many, found⟩ hx ⟨q1, q2, q3⟩
    dsimp only at q1 q2 q3
    have hil : i < web.length := (List.getElem?_eq_some_iff.mp hx).1
    have ht := hw t (List.mem_of_getElem? hx)
    have h0 := ht.h0
    have h8 := ht.h8
    obtain ⟨j, hj⟩ : ∃ j : Nat, t.a = j := ⟨t.a.toNat, by omega⟩
    have g := q2 j (by omega)
    have ga : atI many t.a = some (cnt (web.take i) j : Int) := by rw [hj]; exact atI_nat g
    unfold m_names_L1
    simp only [run_bind, run_rt, run_opt, ga, Option.some.injEq, exists_eq_left']
    have hfl : found.length ≤ 100000 := by
      rw [q3, nmS_len, List.length_take]
      omega
    refine apd_wp hfl (sti_wp h0 (by rw [q1]; omega) ?_)
    refine ⟨by simp [q1], fun h hh => ?_, ?_⟩
    · rw [take_snoc hx, cnt_snoc]
      have ej : t.a.toNat = j := by omega
      rw [ej, List.getElem?_set]
      by_cases c : j = h
      · subst c
        rw [if_pos rfl, if_pos (by omega), if_pos hj]
        simp
      · rw [if_neg c, q2 h hh, if_neg (by omega)]
        simp
    · rw [take_snoc hx, nmS_snoc, q3, hj]
  · rintro ⟨many, found⟩ ⟨q1, q2, q3⟩
    dsimp only at q3
    unfold m_names_R1
    rw [List.take_length] at q3
    rw [run_rt, q3]
    exact k
end M

/-! # what must come ahead -/
namespace M
open PySem L2 Z
theorem calls_wp {web : List (P3 Int Str Int)} {Φ : List (Int × Int) → Prop} (hw : ∀ t ∈ web, ToOk t) (hl : web.length ≤ 1000) (k : Φ (nmS web)) : (m_law_calls web).run Φ := by
  unfold m_law_calls
  simp only [run_bind, run_rt, run_guard]
  refine ⟨by decide, ?_⟩
  refine forL_wp (fun i s => s.1.length = 8 ∧ (∀ h : Nat, h < 8 → s.1[h]? = some (cnt (web.take i) h : Int)) ∧ s.2 = nmS (web.take i)) ?_ ?_ ?_
  · refine ⟨by decide, fun h hh => ?_, rfl⟩
    have : h = 0 ∨ h = 1 ∨ h = 2 ∨ h = 3 ∨ h = 4 ∨ h = 5 ∨ h = 6 ∨ h = 7 := by omega
    rcases this with rfl | rfl | rfl | rfl | rfl | rfl | rfl | rfl <;> rfl
  · rintro i t ⟨many, found⟩ hx ⟨q1, q2, q3⟩
    dsimp only at q1 q2 q3
    have hil : i < web.length := (List.getElem?_eq_some_iff.mp hx).1
    have ht := hw t (List.mem_of_getElem? hx)
    have h0 := ht.h0
    have h8 := ht.h8
    obtain ⟨j, hj⟩ : ∃ j : Nat, t.a = j := ⟨t.a.toNat, by omega⟩
    have g := q2 j (by omega)
    have ga : atI many t.a = some (cnt (web.take i) j : Int) := by rw [hj]; exact atI_nat g
    unfold m_law_calls_L1
    simp only [run_bind, run_rt, run_opt, ga, Option.some.injEq, exists_eq_left']
    have hfl : found.length ≤ 100000 := by
      rw [q3, nmS_len, List.length_take]
      omega
    refine apd_wp hfl (sti_wp h0 (by rw [q1]; omega) ?_)
    refine ⟨by simp [q1], fun h hh => ?_, ?_⟩
    · rw [take_snoc hx, cnt_snoc]
      have ej : t.a.toNat = j := by omega
      rw [ej, List.getElem?_set]
      by_cases c : j = h
      · subst c
        rw [if_pos rfl, if_pos (by omega), if_pos hj]
        simp
      · rw [if_neg c, q2 h hh, if_neg (by omega)]
        simp
    · rw [take_snoc hx, nmS_snoc, q3, hj]
  · rintro ⟨many, found⟩ ⟨q1, q2, q3⟩
    dsimp only at q3
    unfold m_law_calls_R1
    rw [List.take_length] at q3
    rw [run_rt, q3]
    exact k

def gW (web : List (P3 Int Str Int)) (i : Nat) : P3 Int Str Int := web.getD i ⟨0, "", 0⟩
def hdW (web : List (P3 Int Str Int)) (x : Nat) : Nat := (gW web x).a.toNat
def stS (s t : P3 Int Str Int) : Bool := decide (s.a = t.a) || meetS s t
def stW (web : List (P3 Int Str Int)) (y x : Nat) : Bool := decide (hdW web y = hdW web x) || stS (gW web y) (gW web x)
abbrev TW (web : List (P3 Int Str Int)) : Nat → Nat → Int := TT (hdW web) (stW web)
abbrev cW (web : List (P3 Int Str Int)) (x : Nat) : Int := cn (hdW web) (hdW web x) x
theorem hst_W {web : List (P3 Int Str Int)} : ∀ y x, hdW web y = hdW web x → stW web y x = true := fun y x e => by
  unfold stW
  rw [decide_eq_true e]
  rfl
section
variable {web : List (P3 Int Str Int)} {x y i j : Nat}
theorem gW_get (h : x < web.length) : web[x]? = some (gW web x) := by
  unfold gW
  rw [List.getD_eq_getElem?_getD, List.getElem?_eq_getElem h]
  rfl
theorem gW_at (h : x < web.length) : atI web (x : Int) = some (gW web x) := atI_nat (gW_get h)
theorem gW_ok (hw : ∀ t ∈ web, ToOk t) (h : x < web.length) : ToOk (gW web x) := hw _ (List.mem_of_getElem? (gW_get h))
theorem hdW_a (hw : ∀ t ∈ web, ToOk t) (h : x < web.length) : (gW web x).a = (hdW web x : Int) := by
  have := (gW_ok hw h).h0
  unfold hdW
  omega
theorem hdW_8 (hw : ∀ t ∈ web, ToOk t) (h : x < web.length) : hdW web x < 8 := by
  have := (gW_ok hw h).h8
  have := hdW_a hw h
  omega
theorem stW_S (hw : ∀ t ∈ web, ToOk t) (hy : y < web.length) (hx : x < web.length) : stW web y x = stS (gW web y) (gW web x) := by
  unfold stW stS
  have e : decide (hdW web y = hdW web x) = decide ((gW web y).a = (gW web x).a) := by
    rw [hdW_a hw hy, hdW_a hw hx]
    by_cases c : hdW web y = hdW web x
    · rw [decide_eq_true c, decide_eq_true (by rw [c])]
    · rw [decide_eq_false c, decide_eq_false (fun q => c (by omega))]
  rw [e]
  cases decide ((gW web y).a = (gW web x).a) <;> simp
theorem cn_cnt (hw : ∀ t ∈ web, ToOk t) (h : Nat) : ∀ x, x ≤ web.length → (cnt (web.take x) (h : Int) : Int) = cn (hdW web) h x
  | 0, _ => rfl
  | x + 1, hx => by
    have hx' : x < web.length := by omega
    rw [take_snoc (gW_get hx'), cnt_snoc]
    have ih := cn_cnt hw h x (by omega)
    show ((cnt (web.take x) (h : Int) + (if (gW web x).a = (h : Int) then 1 else 0) : Nat) : Int) = cn (hdW web) h x + (if hdW web x = h then 1 else 0)
    rw [← ih, hdW_a hw hx']
    by_cases c : hdW web x = h
    · rw [if_pos c, if_pos (by rw [c])]; omega
    · rw [if_neg c, if_neg (fun q => c (by omega))]; omega
theorem nm_take (hw : ∀ t ∈ web, ToOk t) : ∀ n, n ≤ web.length → ∀ x, x < n → (nmS (web.take n))[x]? = some ((hdW web x : Int), cW web x)
  | 0, _, x, hx => by omega
  | n + 1, hn, x, hx => by
    have hn' : n < web.length := by omega
    rw [take_snoc (gW_get hn'), nmS_snoc]
    have hl : (nmS (web.take n)).length = n := by rw [nmS_len, List.length_take]; omega
    by_cases e : x = n
    · subst e
      rw [List.getElem?_append_right (by omega), hl, Nat.sub_self]
      have q := cn_cnt hw (hdW web x) x (by omega)
      rw [hdW_a hw hn', q]
      rfl
    · rw [List.getElem?_append_left (by omega)]
      exact nm_take hw n (by omega) x (by omega)
theorem nm_get (hw : ∀ t ∈ web, ToOk t) (h : x < web.length) : (nmS web)[x]? = some ((hdW web x : Int), cW web x) := by
  have q := nm_take hw web.length (Nat.le_refl _) x h
  rwa [List.take_length] at q
theorem nm_at (hw : ∀ t ∈ web, ToOk t) (h : x < web.length) : atI (nmS web) (x : Int) = some ((hdW web x : Int), cW web x) := atI_nat (nm_get hw h)
def tabL (web : List (P3 Int Str Int)) (n : Nat) : List (List Int) := (List.range n).map fun x => rowL (TW web x)
theorem tab_len {n : Nat} : (tabL web n).length = n := by unfold tabL; simp
theorem tab_get {n : Nat} (h : x < n) : (tabL web n)[x]? = some (rowL (TW web x)) := by
  unfold tabL
  rw [List.getElem?_map, List.getElem?_range h]
  rfl
theorem tab_at {n : Nat} (h : x < n) : atI (tabL web n) (x : Int) = some (rowL (TW web x)) := atI_nat (tab_get h)
theorem tab_snoc {n : Nat} : tabL web (n + 1) = tabL web n ++ [rowL (TW web n)] := by
  unfold tabL
  rw [List.range_succ, List.map_append]
  rfl
theorem row_at {f : Nat → Int} {h : Nat} (hh : h < 8) : atI (rowL f) (h : Int) = some (f h) := atI_nat (rowL_get hh)
theorem is_step_wp {Φ : Bool → Prop} (hw : ∀ t ∈ web, ToOk t) (hy : y < web.length) (hx : x < web.length) (k : Φ (stW web y x)) : (m_is_step web (y : Int) (x : Int)).run Φ := by
  rw [stW_S hw hy hx] at k
  unfold stS at k
  unfold m_is_step
  simp only [run_bind, run_rt, run_opt, gW_at hy, gW_at hx, Option.some.injEq, exists_eq_left', run_ite]
  refine ⟨fun e => ?_, fun e => meets_wp ?_⟩
  · rw [e] at k; exact k
  · rw [e] at k; exact k
theorem law_step_wp {s t : P3 Int Str Int} {Φ : Bool → Prop} (k : Φ (stS s t)) : (m_law_step s t).run Φ := by
  unfold stS at k
  unfold m_law_step
  simp only [run_bind, run_rt, run_ite]
  refine ⟨fun e => ?_, fun e => law_meets_wp ?_⟩
  · rw [e] at k; exact k
  · rw [e] at k; exact k
/-- the firsts that are met on the way back -/
def frs (web : List (P3 Int Str Int)) (x : Nat) : Nat → List Int
  | 0 => []
  | t + 1 => if supD (stW web) (TW web) x (hdW web (x - 1 - t)) t ≤ cW web (x - 1 - t) ∧ stW web (x - 1 - t) x = true ∧ hdW web (x - 1 - t) ≠ hdW web x then frs web x t ++ [((x - 1 - t : Nat) : Int)] else frs web x t
theorem frs_len : ∀ t, (frs web x t).length ≤ t
  | 0 => Nat.le_refl 0
  | t + 1 => by
    have q := frs_len t
    show (if _ then frs web x t ++ [((x - 1 - t : Nat) : Int)] else frs web x t).length ≤ t + 1
    split
    · rw [List.length_append]; exact Nat.succ_le_succ q
    · omega
theorem rngD_get {a b : Int} {i : Nat} {z : Int} (h : (rngD a b)[i]? = some z) : i < (a - b).toNat ∧ z = a - i := by
  unfold rngD at h
  rw [List.getElem?_map] at h
  cases e : (List.range (a - b).toNat)[i]? with
  | none => rw [e] at h; cases h
  | some k =>
    rw [e] at h
    obtain ⟨hl, ek⟩ := List.getElem?_eq_some_iff.mp e
    rw [List.getElem_range] at ek
    subst ek
    rw [List.length_range] at hl
    exact ⟨hl, (Option.some.inj h).symm⟩
theorem rngD_len {a b : Int} : (rngD a b).length = (a - b).toNat := by unfold rngD; simp
theorem looked_wp {Φ : List Int × List Int → Prop} (hw : ∀ t ∈ web, ToOk t) (hl : web.length ≤ 1000) (hj : j < web.length) (k : Φ (rowL (TW web j), frs web j j)) : (m_looked_back web (nmS web) (tabL web j) (j : Int)).run Φ := by
  unfold m_looked_back
  simp only [run_bind, run_rt, run_guard]
  refine ⟨by decide, ⟨⟨by decide, by decide, by omega, by omega⟩, ?_⟩⟩
  have hlen : (rngD ((j : Int) - 1) (-1)).length = j := by rw [rngD_len]; omega
  refine forL_wp (fun t s => s.1 = rowL (fun h => supD (stW web) (TW web) j h t) ∧ s.2 = frs web j t) ⟨rowL_zero, rfl⟩ ?_ ?_
  · rintro t z ⟨known, firsts⟩ hx ⟨q1, q2⟩
    dsimp only at q1 q2
    subst q1 q2
    obtain ⟨ht, rfl⟩ := rngD_get hx
    have htj : t < j := by omega
    obtain ⟨y, hy, ey⟩ : ∃ y : Nat, y = j - 1 - t ∧ ((j : Int) - 1 - (t : Int)) = (y : Int) := ⟨j - 1 - t, rfl, by omega⟩
    rw [ey]
    have hyl : y < web.length := by omega
    have h8 := hdW_8 hw hyl
    have hnx : ∀ h, supD (stW web) (TW web) j h (t + 1) = if stW web y j = true then mx (supD (stW web) (TW web) j h t) (TW web y h) else supD (stW web) (TW web) j h t := fun h => by rw [hy]; rfl
    have hfx : frs web j (t + 1) = if supD (stW web) (TW web) j (hdW web y) t ≤ cW web y ∧ stW web y j = true ∧ hdW web y ≠ hdW web j then frs web j t ++ [(y : Int)] else frs web j t := by rw [hy]; rfl
    unfold m_looked_back_L1
    simp only [run_bind, run_rt, run_opt, nm_at hw hyl, nm_at hw hj, Option.some.injEq, exists_eq_left', row_at h8, run_ite, tab_at (show y < j by omega), m_looked_back_R1]
    have hge : decide (cW web y ≥ supD (stW web) (TW web) j (hdW web y) t) = decide (supD (stW web) (TW web) j (hdW web y) t ≤ cW web y) := rfl
    refine ⟨fun e => ?_, fun e => ?_⟩
    · have e' : supD (stW web) (TW web) j (hdW web y) t ≤ cW web y := of_decide_eq_true (hge ▸ e)
      refine is_step_wp hw hyl hj ?_
      refine ⟨fun es => ?_, fun es => ?_⟩
      · refine compG_wp (fun _ => true) (fun p => if p.2 > p.1 then p.2 else p.1) (by show 8 ≤ sizeLine; decide) (fun _ _ Ψ h => h) (fun x _ _ Ψ (h : Ψ (if x.2 > x.1 then x.2 else x.1)) => by show Ψ _; exact h) ?_
        rw [rowL_zip]
        have hrow : (rowL fun h => mx (supD (stW web) (TW web) j h t) (TW web y h)) = rowL fun h => supD (stW web) (TW web) j h (t + 1) := rowL_congr fun h => by rw [hnx, if_pos es]
        rw [hrow]
        refine ⟨fun ed => ?_, fun ed => ?_⟩
        · have ne : hdW web y ≠ hdW web j := fun q => by rw [q] at ed; simp at ed
          refine apd_wp (Nat.le_trans (frs_len t) (by omega)) ⟨rfl, ?_⟩
          rw [hfx, if_pos ⟨e', es, ne⟩]
        · have eq : hdW web y = hdW web j := by
            have := ed
            simp at this
            omega
          refine ⟨rfl, ?_⟩
          rw [hfx, if_neg fun q => q.2.2 eq]
      · refine ⟨rowL_congr fun h => ?_, ?_⟩
        · rw [hnx, if_neg (by rw [es]; exact Bool.false_ne_true)]
        · rw [hfx, if_neg fun q => by rw [es] at q; exact Bool.false_ne_true q.2.1]
    · have e' : ¬ supD (stW web) (TW web) j (hdW web y) t ≤ cW web y := of_decide_eq_false (hge ▸ e)
      refine ⟨fun q => (nomatch q), fun _ => ⟨rowL_congr fun h => ?_, ?_⟩⟩
      · have q := skip (hd := hdW web) (st := stW web) (x := j) (t := t) hst_W htj (by rw [← hy]; exact Int.not_le.mp e') h
        exact q.symm
      · rw [hfx, if_neg fun q => e' q.1]
  · rintro ⟨known, firsts⟩ ⟨q1, q2⟩
    dsimp only at q1 q2
    subst q1 q2
    have h8 := hdW_8 hw hj
    unfold m_looked_back_R2
    simp only [run_bind, run_rt, run_opt, nm_at hw hj, Option.some.injEq, exists_eq_left']
    refine sti_wp (by omega) (by rw [rowL_len]; omega) ?_
    rw [hlen, show ((hdW web j : Nat) : Int).toNat = hdW web j from rfl, rowL_set h8]
    have hrow : (rowL fun x => if x = hdW web j then cW web j + 1 else supD (stW web) (TW web) j x j) = rowL (TW web j) := rowL_congr fun h => by
      rw [show TW web j h = TT (hdW web) (stW web) j h from rfl, TT_eq]
      split
      · rfl
      · exact supD_full
    rw [hrow]
    exact k
theorem table_wp {Φ : List (List Int) → Prop} (hw : ∀ t ∈ web, ToOk t) (hl : web.length ≤ 1000) (k : Φ (tabL web web.length)) : (m_law_table web (nmS web)).run Φ := by
  unfold m_law_table
  simp only [run_bind, run_rt, run_guard]
  refine ⟨⟨by decide, by decide, by omega, by omega⟩, ?_⟩
  have hlen : (rng 0 (web.length : Int)).length = web.length := by rw [rng_len]; omega
  refine forL_wp (fun i s => s = tabL web i) rfl ?_ ?_
  · rintro j z s hx rfl
    obtain ⟨hi, rfl⟩ := rng_get hx
    have hj : j < web.length := by omega
    rw [Int.zero_add]
    unfold m_law_table_L1
    simp only [run_bind, run_rt, run_guard]
    refine ⟨by decide, ⟨⟨by decide, by decide, by omega, by omega⟩, ?_⟩⟩
    have hlj : (rng 0 (j : Int)).length = j := by rw [rng_len]; omega
    refine forL_wp (fun m s => s = rowL fun h => supR (stW web) (TW web) j h m) rowL_zero ?_ ?_
    · rintro m z s hx rfl
      obtain ⟨hm, rfl⟩ := rng_get hx
      have hmj : m < j := by omega
      have hml : m < web.length := by omega
      rw [Int.zero_add]
      unfold m_law_table_L2
      simp only [run_bind, run_rt, run_opt, gW_at hml, gW_at hj, Option.some.injEq, exists_eq_left', run_ite, run_guard]
      refine law_step_wp ?_
      rw [← stW_S hw hml hj]
      have hnx : ∀ h, supR (stW web) (TW web) j h (m + 1) = if stW web m j = true then mx (supR (stW web) (TW web) j h m) (TW web m h) else supR (stW web) (TW web) j h m := fun h => rfl
      refine ⟨fun es => ⟨⟨by decide, by decide, by decide, by decide⟩, ?_⟩, fun es => ?_⟩
      · refine compG_wp (fun _ => true) (fun h => mx (supR (stW web) (TW web) j h.toNat m) (TW web m h.toNat)) (by decide) (fun _ _ Ψ h => h) (fun x hxm _ Ψ h => ?_) ?_
        · obtain ⟨q, hq⟩ := List.mem_iff_getElem?.mp hxm
          obtain ⟨h8, rfl⟩ := rng_get hq
          have h8' : q < 8 := by omega
          rw [Int.zero_add] at h ⊢
          simp only [run_bind, run_opt, run_rt, row_at h8', tab_at hmj, Option.some.injEq, exists_eq_left']
          exact h
        · rw [rowL_rng (f := fun h => mx (supR (stW web) (TW web) j h m) (TW web m h))]
          exact rowL_congr fun h => by rw [hnx, if_pos es]
      · exact rowL_congr fun h => by rw [hnx, if_neg (by rw [es]; exact Bool.false_ne_true)]
    · rintro s rfl
      have h8 := hdW_8 hw hj
      rw [hlj]
      simp only [run_bind, run_rt, run_opt, nm_at hw hj, Option.some.injEq, exists_eq_left']
      refine sti_wp (by omega) (by rw [rowL_len]; omega) ?_
      rw [show ((hdW web j : Nat) : Int).toNat = hdW web j from rfl, rowL_set h8]
      refine apd_wp (by rw [tab_len]; omega) ?_
      have hrow : (rowL fun x => if x = hdW web j then cW web j + 1 else supR (stW web) (TW web) j x j) = rowL (TW web j) := rowL_congr fun h => by
        rw [show TW web j h = TT (hdW web) (stW web) j h from rfl, TT_eq]
      rw [hrow, tab_snoc]
  · rintro s rfl
    rw [hlen]
    exact k
end
end M

/-! # k23: the notes -/
namespace M
open PySem L2 Z
abbrev Note := P4 Int Int Int Int
section
variable {web : List (P3 Int Str Int)} {x y i j n : Nat}
def keepB (web : List (P3 Int Str Int)) (j i : Nat) : Bool := decide (supD (stW web) (TW web) j (hdW web i) (j - 1 - i) ≤ cW web i ∧ stW web i j = true ∧ hdW web i ≠ hdW web j)
def keepZ (web : List (P3 Int Str Int)) (j : Nat) (i : Int) : Bool := keepB web j i.toNat
def ntW (web : List (P3 Int Str Int)) (j : Nat) (i : Int) : Note := ⟨(hdW web i.toNat : Int), cW web i.toNat, (hdW web j : Int), cW web j⟩
theorem rng0_drop (h : i < j) : (rng 0 (j : Int)).drop i = (i : Int) :: (rng 0 (j : Int)).drop (i + 1) := by
  have e : (rng 0 (j : Int))[i]? = some (i : Int) := by
    unfold rng
    rw [List.getElem?_map, List.getElem?_range (by omega)]
    simp
  exact drop_cons e
theorem frs_perm : ∀ t, t ≤ j → (frs web j t).Perm (((rng 0 (j : Int)).drop (j - t)).filter (keepZ web j))
  | 0, _ => by
    have e : (rng 0 (j : Int)).drop (j - 0) = [] := List.drop_eq_nil_of_le (by rw [rng_len]; omega)
    rw [e]
    exact List.Perm.refl _
  | t + 1, ht => by
    have ih := frs_perm t (by omega)
    have e : j - (t + 1) = j - 1 - t := by omega
    rw [e, rng0_drop (by omega), List.filter_cons, show j - 1 - t + 1 = j - t by omega]
    have e2 : j - 1 - (j - 1 - t) = t := by omega
    have ek : keepZ web j ((j - 1 - t : Nat) : Int) = decide (supD (stW web) (TW web) j (hdW web (j - 1 - t)) t ≤ cW web (j - 1 - t) ∧ stW web (j - 1 - t) j = true ∧ hdW web (j - 1 - t) ≠ hdW web j) := by
      unfold keepZ keepB
      rw [Int.toNat_natCast, e2]
    rw [ek]
    show (if supD (stW web) (TW web) j (hdW web (j - 1 - t)) t ≤ cW web (j - 1 - t) ∧ stW web (j - 1 - t) j = true ∧ hdW web (j - 1 - t) ≠ hdW web j then frs web j t ++ [((j - 1 - t : Nat) : Int)] else frs web j t).Perm _
    by_cases c : supD (stW web) (TW web) j (hdW web (j - 1 - t)) t ≤ cW web (j - 1 - t) ∧ stW web (j - 1 - t) j = true ∧ hdW web (j - 1 - t) ≠ hdW web j
    · rw [if_pos c, if_pos (decide_eq_true c)]
      exact (List.perm_append_singleton _ _).trans (ih.cons _)
    · rw [if_neg c, if_neg (by rw [decide_eq_false c]; exact Bool.false_ne_true)]
      exact ih
theorem frs_all : (frs web j j).Perm ((rng 0 (j : Int)).filter (keepZ web j)) := by
  have q := frs_perm (web := web) (j := j) j (Nat.le_refl _)
  rwa [Nat.sub_self, List.drop_zero] at q
def DP (web : List (P3 Int Str Int)) : Nat → List Note
  | 0 => []
  | j + 1 => DP web j ++ (frs web j j).map (ntW web j)
def LP (web : List (P3 Int Str Int)) : Nat → List (Int × Int)
  | 0 => []
  | j + 1 => LP web j ++ ((rng 0 (j : Int)).filter (keepZ web j)).map fun i => (i, (j : Int))
def namW (web : List (P3 Int Str Int)) (p : Int × Int) : Note := ntW web p.2.toNat p.1
theorem DP_perm : ∀ n, (DP web n).Perm ((LP web n).map (namW web))
  | 0 => List.Perm.refl _
  | j + 1 => by
    show (DP web j ++ (frs web j j).map (ntW web j)).Perm ((LP web j ++ ((rng 0 (j : Int)).filter (keepZ web j)).map fun i => (i, (j : Int))).map (namW web))
    rw [List.map_append, List.map_map]
    exact (DP_perm j).append (frs_all.map _)
theorem DP_len : ∀ n, n ≤ 300 → (DP web n).length ≤ n * 300
  | 0, _ => Nat.le_refl _
  | j + 1, h => by
    have q := DP_len j (by omega)
    have q2 := frs_len (web := web) (x := j) j
    show (DP web j ++ (frs web j j).map (ntW web j)).length ≤ _
    rw [List.length_append, List.length_map]
    omega
theorem LP_len (h : n ≤ 300) : (LP web n).length ≤ n * 300 := by
  have q := (DP_perm (web := web) n).length_eq
  rw [List.length_map] at q
  rw [← q]
  exact DP_len n h
theorem LP_mem : ∀ n, ∀ p ∈ LP web n, ∃ i j : Nat, p = ((i : Int), (j : Int)) ∧ i < j ∧ j < n
  | 0, p, h => nomatch h
  | m + 1, p, h => by
    rcases List.mem_append.mp h with h | h
    · obtain ⟨i, j, e, h1, h2⟩ := LP_mem m p h
      exact ⟨i, j, e, h1, by omega⟩
    · obtain ⟨z, hz, rfl⟩ := List.mem_map.mp h
      obtain ⟨q, hq⟩ := List.mem_iff_getElem?.mp (List.mem_filter.mp hz).1
      obtain ⟨hl, rfl⟩ := rng_get hq
      exact ⟨q, m, by simp, by omega, by omega⟩
theorem frs_mem (h : y ≤ j) {z : Int} (hz : z ∈ frs web j y) : ∃ i : Nat, z = (i : Int) ∧ i < j := by
  have q := (frs_perm (web := web) y h).mem_iff.mp hz
  obtain ⟨p, hp⟩ := List.mem_iff_getElem?.mp (List.mem_of_mem_drop (List.mem_filter.mp q).1)
  obtain ⟨hl, rfl⟩ := rng_get hp
  exact ⟨p, by omega, by omega⟩
theorem nt_wp {Φ : Note → Prop} (hw : ∀ t ∈ web, ToOk t) (hi : i < web.length) (hj : j < web.length) (k : Φ (ntW web j (i : Int))) :
    (W.bind (W.opt (atI (nmS web) (i : Int))) fun t => W.bind (W.opt (atI (nmS web) (j : Int))) fun u => W.ret (⟨t.1, t.2, u.1, u.2⟩ : Note)).run Φ := by
  simp only [run_bind, run_opt, run_rt, nm_at hw hi, nm_at hw hj, Option.some.injEq, exists_eq_left']
  exact k
theorem notes_wp {Φ : List Note → Prop} (hw : ∀ t ∈ web, ToOk t) (hl : web.length ≤ 300) (k : Φ (srtK (DP web web.length))) : (m_notes web).run Φ := by
  unfold m_notes
  simp only [run_bind, run_rt, run_guard]
  refine names_wp hw (by omega) ⟨⟨by decide, by decide, by omega, by omega⟩, ?_⟩
  have hlen : (rng 0 (web.length : Int)).length = web.length := by rw [rng_len]; omega
  refine forL_wp (fun i s => s.1 = tabL web i ∧ s.2 = DP web i) ⟨rfl, rfl⟩ ?_ ?_
  · rintro j z ⟨table, found⟩ hx ⟨q1, q2⟩
    dsimp only at q1 q2
    subst q1 q2
    obtain ⟨hi, rfl⟩ := rng_get hx
    have hj : j < web.length := by omega
    rw [Int.zero_add]
    unfold m_notes_L1
    simp only [run_bind, run_rt]
    refine looked_wp hw (by omega) hj ?_
    refine apd_wp (by rw [tab_len]; omega) ?_
    refine compG_wp (fun _ => true) (ntW web j) (small (Nat.le_trans (frs_len j) (by omega))) (fun _ _ Ψ h => h) (fun x hxm _ Ψ h => ?_) ?_
    · obtain ⟨i, rfl, hij⟩ := frs_mem (Nat.le_refl _) hxm
      exact nt_wp hw (by omega) hj h
    · rw [List.filter_eq_self.mpr fun _ _ => rfl]
      refine ⟨small ?_, tab_snoc.symm, rfl⟩
      have q := DP_len (web := web) j (by omega)
      have q2 := frs_len (web := web) (x := j) j
      show (DP web j).length + ((frs web j j).map (ntW web j)).length ≤ 100000
      rw [List.length_map]
      omega
  · rintro ⟨table, found⟩ ⟨q1, q2⟩
    dsimp only at q1 q2
    subst q1 q2
    rw [hlen]
    exact k
theorem keep_iff (hij : i < j) : keepB web j i = true ↔ stW web i j = true ∧ hdW web i ≠ hdW web j ∧ ∀ y, i < y → y < j → stW web y j = true → TW web y (hdW web i) ≤ cW web i := by
  unfold keepB
  rw [decide_eq_true_eq]
  constructor
  · rintro ⟨h1, h2, h3⟩
    refine ⟨h2, h3, fun y hy hyj hs => Int.le_trans (supD_ge (by omega) (by omega) hyj hs) h1⟩
  · rintro ⟨h2, h3, h1⟩
    exact ⟨supD_le (by omega) cn_nn fun y hy hyj hs => h1 y (by omega) hyj hs, h2, h3⟩
theorem lnotes_wp {Φ : List (Int × Int) → Prop} (hw : ∀ t ∈ web, ToOk t) (hl : web.length ≤ 300) (k : Φ (LP web web.length)) : (m_law_notes web (nmS web) (tabL web web.length)).run Φ := by
  unfold m_law_notes
  simp only [run_bind, run_rt, run_guard]
  refine ⟨⟨by decide, by decide, by omega, by omega⟩, ?_⟩
  have hlen : (rng 0 (web.length : Int)).length = web.length := by rw [rng_len]; omega
  refine forL_wp (fun i s => s = LP web i) rfl ?_ ?_
  · rintro j z s hx rfl
    obtain ⟨hi, rfl⟩ := rng_get hx
    have hj : j < web.length := by omega
    rw [Int.zero_add]
    unfold m_law_notes_L1
    simp only [run_bind, run_rt, run_guard]
    refine ⟨⟨by decide, by decide, by omega, by omega⟩, ?_⟩
    have hlj : (rng 0 (j : Int)).length = j := by rw [rng_len]; omega
    refine compG_wp (fun i => stW web i.toNat j) (fun i => i) (small (by omega)) (fun x hxm Ψ h => ?_) (fun _ _ _ Ψ h => h) ?_
    · obtain ⟨q, hq⟩ := List.mem_iff_getElem?.mp hxm
      obtain ⟨hql, rfl⟩ := rng_get hq
      have hqj : q < j := by omega
      rw [Int.zero_add] at h ⊢
      simp only [run_bind, run_opt, run_rt, gW_at (show q < web.length by omega), gW_at hj, Option.some.injEq, exists_eq_left']
      refine law_step_wp ?_
      rw [← stW_S hw (by omega) hj]
      exact h
    · rw [List.map_id']
      generalize hF : (rng 0 (j : Int)).filter (fun i => stW web i.toNat j) = F
      have hFm : ∀ z ∈ F, ∃ i : Nat, z = (i : Int) ∧ i < j ∧ stW web i j = true := by
        intro z hz
        rw [← hF] at hz
        obtain ⟨h1, h2⟩ := List.mem_filter.mp hz
        obtain ⟨q, hq⟩ := List.mem_iff_getElem?.mp h1
        obtain ⟨hql, rfl⟩ := rng_get hq
        exact ⟨q, by omega, by omega, by simpa using h2⟩
      have hFin : ∀ i : Nat, i < j → stW web i j = true → (i : Int) ∈ F := by
        intro i hij hs
        rw [← hF]
        refine List.mem_filter.mpr ⟨?_, by simpa using hs⟩
        have e : (rng 0 (j : Int))[i]? = some (i : Int) := by
          unfold rng
          rw [List.getElem?_map, List.getElem?_range (by omega)]
          simp
        exact List.mem_of_getElem? e
      have hFl : F.length ≤ j := by
        rw [← hF]
        have := List.length_filter_le (fun i : Int => stW web i.toNat j) (rng 0 (j : Int))
        omega
      have fin : F.filter (keepZ web j) = (rng 0 (j : Int)).filter (keepZ web j) := by
        rw [← hF, List.filter_filter]
        refine List.filter_congr fun z hz => ?_
        obtain ⟨q, hq⟩ := List.mem_iff_getElem?.mp hz
        obtain ⟨hql, rfl⟩ := rng_get hq
        cases c : keepZ web j (0 + (q : Int)) with
        | false => rfl
        | true =>
          have c' : keepB web j q = true := by
            unfold keepZ at c
            simpa using c
          have := ((keep_iff (by omega)).mp c').1
          simp [this]
      refine forL_wp (fun m s => s = LP web j ++ ((F.take m).filter (keepZ web j)).map fun i => (i, (j : Int))) (by simp) ?_ ?_
      · rintro m z s hx rfl
        obtain ⟨i, rfl, hij, hs⟩ := hFm z (List.mem_of_getElem? hx)
        have hil : i < web.length := by omega
        have h8 := hdW_8 hw hil
        unfold m_law_notes_L2
        simp only [run_bind, run_rt, run_opt, nm_at hw hil, gW_at hj, Option.some.injEq, exists_eq_left']
        refine compG_wp (fun x => decide (x > (i : Int)) && decide (cW web i < TW web x.toNat (hdW web i))) (fun x => x) (small (by omega)) (fun x hxm Ψ h => ?_) (fun _ _ _ Ψ h => h) ?_
        · obtain ⟨y, rfl, hyj, hys⟩ := hFm x hxm
          have hyl : y < web.length := by omega
          simp only [run_ite, run_bind, run_opt, run_rt, tab_at hyl, row_at h8, Option.some.injEq, exists_eq_left']
          refine ⟨fun e => ?_, fun e => ?_⟩
          · rw [e, Bool.true_and] at h; exact h
          · rw [e, Bool.false_and] at h; exact h
        · rw [List.map_id']
          generalize hB : F.filter (fun x => decide (x > (i : Int)) && decide (cW web i < TW web x.toNat (hdW web i))) = B
          have hd : decide ((hdW web i : Int) = (gW web j).a) = decide (hdW web i = hdW web j) := by
            rw [hdW_a hw hj]
            by_cases c : hdW web i = hdW web j
            · rw [decide_eq_true c, decide_eq_true (by rw [c])]
            · rw [decide_eq_false c, decide_eq_false (fun q => c (by omega))]
          have hBe : B = [] ↔ ∀ y, i < y → y < j → stW web y j = true → TW web y (hdW web i) ≤ cW web i := by
            rw [← hB, List.filter_eq_nil_iff]
            constructor
            · intro h y h1 h2 h3
              have q := h (y : Int) (hFin y h2 h3)
              simp only [Bool.and_eq_true, decide_eq_true_eq, Int.toNat_natCast] at q
              refine Classical.byContradiction fun z => q ⟨by omega, by omega⟩
            · intro h x hxF
              obtain ⟨y, rfl, hyj, hys⟩ := hFm x hxF
              simp only [Bool.and_eq_true, decide_eq_true_eq, Int.toNat_natCast]
              rintro ⟨h1, h2⟩
              have := h y (by omega) hyj hys
              omega
          have hkk : keepZ web j (i : Int) = keepB web j i := by unfold keepZ; rw [Int.toNat_natCast]
          have hstep : ∀ b : Bool, b = keepB web j i → ((b = true → ((apd (LP web j ++ ((F.take m).filter (keepZ web j)).map fun i => (i, (j : Int))) ((i : Int), (j : Int))).run fun s => s = LP web j ++ ((F.take (m + 1)).filter (keepZ web j)).map fun i => (i, (j : Int)))) ∧ (b = false → (LP web j ++ ((F.take m).filter (keepZ web j)).map fun i => (i, (j : Int))) = LP web j ++ ((F.take (m + 1)).filter (keepZ web j)).map fun i => (i, (j : Int)))) := by
            intro b hb
            rw [take_snoc hx, List.filter_append, List.map_append]
            refine ⟨fun e => ?_, fun e => ?_⟩
            · have q : [(i : Int)].filter (keepZ web j) = [(i : Int)] := by rw [List.filter_cons, hkk, ← hb, e]; rfl
              rw [q]
              refine apd_wp ?_ ?_
              · have l1 := LP_len (web := web) (n := j) (by omega)
                have l2 := List.length_filter_le (keepZ web j) (F.take m)
                rw [List.length_append, List.length_map]
                rw [List.length_take] at l2
                omega
              · rw [List.append_assoc]; rfl
            · have q : [(i : Int)].filter (keepZ web j) = [] := by rw [List.filter_cons, hkk, ← hb, e]; rfl
              rw [q, List.map_nil, List.append_nil]
          have okB : okD B := okD_of fun _ _ => trivial
          simp only [run_ite, run_guard, run_rt, run_bind]
          rw [hd]
          refine ⟨fun e => ⟨⟨okB, okD_of fun _ _ => trivial⟩, ?_⟩, fun e => ?_⟩
          · have ne : hdW web i ≠ hdW web j := by simpa using e
            rw [eqD_dec]
            refine hstep _ ?_
            by_cases c : B = []
            · rw [decide_eq_true c, eq_comm]
              exact (keep_iff hij).mpr ⟨hs, ne, hBe.mp c⟩
            · rw [decide_eq_false c]
              cases q : keepB web j i with
              | false => rfl
              | true => exact absurd (hBe.mpr ((keep_iff hij).mp q).2.2) c
          · have eq : hdW web i = hdW web j := by simpa using e
            have hf : false = keepB web j i := by
              cases q : keepB web j i with
              | false => rfl
              | true => exact absurd eq ((keep_iff hij).mp q).2.1
            have q := hstep false hf
            exact ⟨q.1, fun _ => q.2 rfl⟩
      · rintro s rfl
        rw [List.take_length, fin]
        rfl
  · rintro s rfl
    rw [hlen]
    exact k
theorem named_wp {Φ : List Note → Prop} (hw : ∀ t ∈ web, ToOk t) (hl : web.length ≤ 300) (k : Φ (srtK ((LP web web.length).map (namW web)))) : (m_law_named (nmS web) (LP web web.length)).run Φ := by
  unfold m_law_named
  simp only [run_bind, run_rt]
  refine compG_wp (fun _ => true) (namW web) (small (Nat.le_trans (LP_len hl) (by omega))) (fun _ _ Ψ h => h) (fun x hxm _ Ψ h => ?_) ?_
  · obtain ⟨i, j, rfl, h1, h2⟩ := LP_mem _ x hxm
    exact nt_wp hw (by omega) h2 h
  · rw [List.filter_eq_self.mpr fun _ _ => rfl]
    exact k
end
theorem rows4_wp {xs : List Note} {Φ : Bool → Prop} (k : Φ true) : (m_law_rows xs xs).run Φ := by
  unfold m_law_rows
  simp only [run_bind, run_rt, run_guard, run_ite]
  refine ⟨fun h => (Bool.noConfusion h), fun _ => ⟨fun h => ?_, fun _ => ?_⟩⟩
  · simp at h
  · refine forC_wp (fun _ _ => True) trivial (fun i x s _ _ => ?_) fun s _ => ?_
    · unfold m_law_rows_L1
      simp only [run_bind, run_rt, run_ite]
      refine ⟨fun h => Bool.noConfusion h, fun _ => compG_wp (fun _ => true) (fun _ => true) (by show 4 ≤ sizeLine; decide) (fun _ _ Ψ h => h) (fun y _ _ Ψ h => ?_) ?_⟩
      · unfold m_law_whole
        simp only [run_bind, run_rt, run_ite]
        exact ⟨fun _ => h, fun e => Bool.noConfusion e⟩
      · exact ⟨fun h => Bool.noConfusion h, fun _ => trivial⟩
    · simp only [W.after, run_bind, run_rt, run_guard, eqD_self]
      exact ⟨⟨okD_of (fun _ _ => ⟨trivial, trivial, trivial, trivial⟩), okD_of (fun _ _ => ⟨trivial, trivial, trivial, trivial⟩)⟩, k⟩
theorem law_true {ns : List Int} (hl : ns.length ≤ 63) : (m_law ns).run (fun r => r = true) := by
  unfold m_law
  simp only [run_bind, run_bind2, run_rt, run_guard, run_opt]
  refine spring_wp hl fun sp hsp => ?_
  refine web_wp hsp (by decide) (by decide) (by decide) fun web sp1 hw hl2 hsp1 => ?_
  dsimp only
  have hl3 : web.length ≤ 300 := hw.2
  have okw : okD web := okD_of fun t ht => to_lay (hw.1 t ht)
  refine calls_wp hw.1 (by omega) (table_wp hw.1 (by omega) (lnotes_wp hw.1 hl3 (named_wp hw.1 hl3 ?_)))
  rw [← srtK_eq (DP_perm (web := web) web.length)]
  refine notes_wp hw.1 hl3 (rows4_wp ?_)
  simp only [run_ite, run_guard, run_rt, run_bind]
  refine ⟨fun e => (nomatch e), fun _ => ⟨⟨okw, okw⟩, ?_⟩⟩
  rw [eqD_self]
  refine ⟨fun e => (nomatch e), fun _ => ?_⟩
  refine apd_wp ?_ (notes_wp hw.1 hl3 (rows4_wp rfl))
  rw [(srtK_perm _).length_eq]
  exact Nat.le_trans (DP_len _ hl3) (by omega)
end M

namespace M
open PySem L2 Z
section
def topS (i : Nat) : Stmt := PySem.Challenge.pw_fewnotes_k23_the_notes.main.body.getD i (.Pass ⟨0, 0, 0, 0⟩)
variable {P : Program} {w : World} {K : PySem.W.Frag} {mg : Str → Option Value} {base : Heap} {cl : Nat → Addr}
abbrev s_names : Stmt := topS 2
theorem sc_names : FnScope ["web", "many", "found", "hand", "kind", "cell"] ["web"] (defScope s_names) := ⟨rfl, rfl, rfl, by decide +kernel, rfl, by decide +kernel, by decide +kernel⟩
theorem ok_names {f : Addr} {fd : FuncData} (F : Fun K "names" "names" s_names f fd) {tk_HANDS : Tok} (g_HANDS : mg "HANDS" = some (.int 8 tk_HANDS)) :
    FnOk P w K mg base CX0 1 f fd ["web"] (Sf1 K (PL K) m_names) := by
  refine F.ok sc_names (fun vs H Q E h => ?_) (fun cdv A outer s H vs Q E hr h => ?_)
  · obtain ⟨rs, Ho, v0_, x0_, rfl, _⟩ := h
    rfl
  · obtain ⟨rs, Ho, v0_, x0_, rfl, z, d0_, hw⟩ := h
    refine ⟨_, pss_cons (ps_set (i := 1) sc_names.nd rfl (Or.inl rfl) (pe_op op_rep (pe_lst (pa_cons (pe_int) (pa_nil))) (pe_glob (v := .int 8) rfl g_HANDS ⟨_, rfl⟩))) (pss_cons (ps_set (i := 2) sc_names.nd rfl (Or.inl rfl) (pe_lst (pa_nil))) (pss_cons (ps_for PassesOwn.never rfl (zpi_list (K := K) rfl (pv 0)) (zpg_tup (K := K) (n := 3) rfl rfl (pgs_cons (pg_name (i := 3) sc_names.nd rfl (Or.inl rfl)) (pgs_cons (pg_name (i := 4) sc_names.nd rfl (Or.inl rfl)) (pgs_cons (pg_name (i := 5) sc_names.nd rfl (Or.inl rfl)) (pgs_nil))))) (pss_cons (ps_expr (pe_bm PySem.F.plainAttrs_list PySem.F.slot_list_append PySem.F.type_list_append mt_append (pv 2) (pa_cons (pe_tup (pa_cons (pv 3) (pa_cons (pe_ix (zix_list (K := K) rfl) (pv 1) (pv 3) (fun _ _ => rfl)) (pa_nil)))) pa_nil))) (pss_cons (ps_augS (pv 1) (pv 3) (zget_list (K := K) rfl) (pe_int) ip_add set_list) (pss_nil)))) (pss_cons (ps_ret (pv 2)) (pss_nil)))), ?_⟩
    unfold m_names at hw
    refine q_setF (K := K) (fun v => [some v0_, some v, none, none, none, none]) z hw (ef_rep (ef_lst (en_cons (ev_int rfl) (en_nil rfl) rfl)) (fun _ => ev_int rfl) rfl) (fun _ => rfl) (fun x7 p9 ws8 H1 Ho2 e3 z4 d5 hw => ?_)
    replace d0_ := LV.mo d0_ e3
    have es10 := (Same.refl _).trans e3
    refine q_setF (K := K) (fun v => [some v0_, some (V.ref p9), some v, none, none, none]) z4 hw (ef_lst (en_nil rfl)) (fun _ => rfl) (fun x17 p19 ws18 H11 Ho12 e13 z14 d15 hw => ?_)
    replace d5 := DL.mo d5 e13
    replace d0_ := LV.mo d0_ e13
    have es20 := es10.trans e13
    refine q_forLV z14 hw d0_ rfl (subN 2 rfl) (fun (s : (List Int) × (List (Int × Int))) (σ : L2.St) (H Ho : Hp) => ∃ (ws_many_ : List V) (ws_found_ : List V) (y_hand_ : Option V) (y_kind_ : Option V) (y_cell_ : Option V), σ = [some v0_, some (V.ref p9), some (V.ref p19), y_hand_, y_kind_, y_cell_] ∧ Zs ((p19, HO.lst ws_found_) :: (p9, HO.lst ws_many_) :: rs) H Ho ∧ DL K Ho ws_many_ s.1 ∧ DL K Ho ws_found_ s.2) ⟨_, _, _, _, _, rfl, z14, d5, d15⟩ ?_ ?_ ?_ ?_
    · intro s28 σ29 H30 Ho31 hI32
      obtain ⟨c34, c35⟩ := s28
      obtain ⟨ws36, ws38, y40, y41, y42, rfl, z33, d37, d39⟩ := hI32
      exact ⟨_, z33, (subN 2 rfl)⟩
    · intro s43 σ44 H45 Ho46 H47 Ho48 hI49 e50 t51
      obtain ⟨c53, c54⟩ := s43
      obtain ⟨ws55, ws57, y59, y60, y61, rfl, z52, d56, d58⟩ := hI49
      exact ⟨_, _, _, _, _, rfl, t51 _ z52, (DL.mo d56 e50), (DL.mo d58 e50)⟩
    · intro a62 x63 s64 σ65 H66 Ho67 N68 e70 hI71 d72 hw
      obtain ⟨c74, c75⟩ := s64
      obtain ⟨ws76, ws78, y80, y81, y82, rfl, z73, d77, d79⟩ := hI71
      have es83 := es20.trans e70
      have pr84 := (Same.refl Ho).trans es83
      unfold m_names_L1 at hw
      try dsimp only at hw
      refine gt_t3 d72 z73 (fun v85 v86 v87 d88 d89 d90 => ?_)
      obtain rfl := d_int d88
      obtain rfl := d_str d89
      obtain rfl := d_int d90
      refine q_app (n := 0) z73 d79 rfl hw (ev_t2 (ev_i rfl rfl) (ev_op v_ixL (ev_rt (n := 1) d77 rfl rfl rfl) (ev_i rfl rfl) rfl) rfl) rfl (fun _ ws96 H92 Ho93 e94 z95 d97 hw => ?_)
      replace z95 : Zs ((p19, HO.lst ws96) :: (p9, HO.lst ws76) :: rs) H92 Ho93 := z95
      replace d77 := DL.mo d77 e94
      have es98 := (Same.refl _).trans e94
      refine q_augi (n := 1) z95 d77 rfl hw (ev_int rfl) rfl (ev_i rfl rfl) (fun _ ws104 H100 Ho101 e102 z103 d105 hw => ?_)
      replace z103 : Zs ((p19, HO.lst ws96) :: (p9, HO.lst ws104) :: rs) H100 Ho101 := z103
      replace d97 := DL.mo d97 e102
      have es110 := es98.trans e102
      exact run_ret hw _ _ _ es110 ⟨_, _, _, _, _, rfl, z103, d105, d97⟩
    · intro s111 σ112 H113 Ho114 e115 hI116 hw
      obtain ⟨c118, c119⟩ := s111
      obtain ⟨ws120, ws122, y124, y125, y126, rfl, z117, d121, d123⟩ := hI116
      unfold m_names_R1 at hw
      try dsimp only at hw
      have es127 := es20.trans e115
      refine q_retv rfl ?_
      exact (run_ret hw) _ _ _ _ ((Same.refl Ho).trans es127) (z117.sub (List.Sublist.cons₂ _ (List.Sublist.cons _ (List.Sublist.refl _)))) d123
abbrev s_touches_meet : Stmt := topS 3
theorem sc_touches_meet : FnScope ["one", "other"] ["one", "other"] (defScope s_touches_meet) := ⟨rfl, rfl, rfl, by decide +kernel, rfl, by decide +kernel, by decide +kernel⟩
theorem ok_touches_meet {f : Addr} {fd : FuncData} (F : Fun K "touches_meet" "touches_meet" s_touches_meet f fd) :
    FnOk P w K mg base CX0 1 f fd ["one", "other"] (Sp2 (PD K) (PD K) (PD K) m_touches_meet) := by
  refine F.ok sc_touches_meet (fun vs H Q E h => ?_) (fun cdv A outer s H vs Q E hr h => ?_)
  · obtain ⟨rs, Ho, v0_, x0_, v1_, x1_, rfl, _⟩ := h
    rfl
  · obtain ⟨rs, Ho, v0_, x0_, v1_, x1_, rfl, z, d0_, d1_, hw⟩ := h
    refine ⟨_, pss_cons (ps_if (PW.pt (pw_or (pt_cmpR (op_eq) (pe_ix (zix_tup (K := K) rfl) (pv 0) pe_int (fun _ _ => rfl)) (pe_ix (zix_tup (K := K) rfl) (pv 1) pe_int (fun _ _ => rfl)) (nomark _)) (pw_or1 (pt_cmpR (op_ne) (pe_ix (zix_tup (K := K) rfl) (pv 0) pe_int (fun _ _ => rfl)) (pe_ix (zix_tup (K := K) rfl) (pv 1) pe_int (fun _ _ => rfl)) (nomark _))))) (pss_cons (ps_ret (pe_bl)) (pss_nil)) (pss_nil)) (pss_cons (ps_ret (pe_or (pe_cmpR (op_ne) (pe_ix (zix_tup (K := K) rfl) (pv 0) pe_int (fun _ _ => rfl)) (pe_str) (nomark _)) (pe_one (pe_cmpR (op_ne) (pe_ix (zix_tup (K := K) rfl) (pv 1) pe_int (fun _ _ => rfl)) (pe_str) (nomark _))))) (pss_nil)), ?_⟩
    unfold m_touches_meet at hw
    refine q_if z hw (et_or (et_of (K := K) (ev_op v_eq (ev_ixT 0 (f := fun x => x.a) (ev_var d0_ rfl rfl) (fun _ => ⟨_, rfl, rfl⟩) rfl) (ev_ixT 0 (f := fun x => x.a) (ev_var d1_ rfl rfl) (fun _ => ⟨_, rfl, rfl⟩) rfl) rfl)) (et_of (K := K) (ev_op v_ne (ev_ixT 2 (f := fun x => x.c) (ev_var d0_ rfl rfl) (fun _ => ⟨_, rfl, rfl⟩) rfl) (ev_ixT 2 (f := fun x => x.c) (ev_var d1_ rfl rfl) (fun _ => ⟨_, rfl, rfl⟩) rfl) rfl)) rfl) (fun H2 Ho3 e4 z5 hw => ?_) (fun H2 Ho3 e4 z5 hw => ?_)
    · replace d0_ := Z.D.mo d0_ e4
      replace d1_ := Z.D.mo d1_ e4
      have es9 := (Same.refl _).trans e4
      exact q_ret z5 hw (ev_bl rfl) (fun x16 v17 H10 Ho11 e12 z13 d15 hw => (run_ret hw) _ _ _ (((Same.refl Ho).trans es9).trans e12) (z13.sub (List.Sublist.refl _)) d15)
    · replace d0_ := Z.D.mo d0_ e4
      replace d1_ := Z.D.mo d1_ e4
      have es21 := (Same.refl _).trans e4
      refine q_nx ?_
      exact q_ret z5 hw (ev_orV (ev_op v_ne (ev_ixT 1 (f := fun x => x.b) (ev_var d0_ rfl rfl) (fun _ => ⟨_, rfl, rfl⟩) rfl) (ev_str rfl) rfl) (ev_op v_ne (ev_ixT 1 (f := fun x => x.b) (ev_var d1_ rfl rfl) (fun _ => ⟨_, rfl, rfl⟩) rfl) (ev_str rfl) rfl) rfl) (fun x28 v29 H22 Ho23 e24 z25 d27 hw => (run_ret hw) _ _ _ (((Same.refl Ho).trans es21).trans e24) (z25.sub (List.Sublist.refl _)) d27)
abbrev s_is_step : Stmt := topS 4
theorem sc_is_step : FnScope ["web", "i", "j"] ["web", "i", "j"] (defScope s_is_step) := ⟨rfl, rfl, rfl, by decide +kernel, rfl, by decide +kernel, by decide +kernel⟩
theorem ok_is_step {f : Addr} {fd : FuncData} (F : Fun K "is_step" "is_step" s_is_step f fd) {f_touches_meet : Addr} {fd_touches_meet : FuncData} (c_touches_meet : Cal P w K mg base CX0 "touches_meet" ["one", "other"] 1 (Sp2 (PD K) (PD K) (PD K) m_touches_meet) f_touches_meet fd_touches_meet) :
    FnOk P w K mg base CX0 2 f fd ["web", "i", "j"] (Sp3 (PL K) (PD K) (PD K) (PD K) m_is_step) := by
  refine F.ok sc_is_step (fun vs H Q E h => ?_) (fun cdv A outer s H vs Q E hr h => ?_)
  · obtain ⟨rs, Ho, v0_, x0_, v1_, x1_, v2_, x2_, rfl, _⟩ := h
    rfl
  · obtain ⟨rs, Ho, v0_, x0_, v1_, x1_, v2_, x2_, rfl, z, d0_, d1_, d2_, hw⟩ := h
    obtain rfl := d_int d1_
    obtain rfl := d_int d2_
    refine ⟨_, pss_cons (ps_ret (pe_or (pe_cmpR (op_eq) (pe_ix (zix_tup (K := K) rfl) (pe_ix (zix_list (K := K) rfl) (pv 0) (pv 1) (fun _ _ => rfl)) pe_int (fun _ _ => rfl)) (pe_ix (zix_tup (K := K) rfl) (pe_ix (zix_list (K := K) rfl) (pv 0) (pv 2) (fun _ _ => rfl)) pe_int (fun _ _ => rfl)) (nomark _)) (pe_one (pe_call c_touches_meet.ok (hr.mono (by decide)) (by rfl) c_touches_meet.g c_touches_meet.kp c_touches_meet.b .nil pass0 (pa_cons (pe_ix (zix_list (K := K) rfl) (pv 0) (pv 1) (fun _ _ => rfl)) (pa_cons (pe_ix (zix_list (K := K) rfl) (pv 0) (pv 2) (fun _ _ => rfl)) (pa_nil))))))) (pss_nil), ?_⟩
    unfold m_is_step at hw
    exact q_ret z hw (ev_orV (ev_op v_eq (ev_ixT 0 (f := fun x => x.a) (ev_op v_ixL (ev_lp 0 d0_ rfl rfl rfl) (ev_i rfl rfl) rfl) (fun _ => ⟨_, rfl, rfl⟩) rfl) (ev_ixT 0 (f := fun x => x.a) (ev_op v_ixL (ev_lp 0 d0_ rfl rfl rfl) (ev_i rfl rfl) rfl) (fun _ => ⟨_, rfl, rfl⟩) rfl) rfl) (ev_call2 (ev_op v_ixL (ev_lp 0 d0_ rfl rfl rfl) (ev_i rfl rfl) rfl) (ev_op v_ixL (ev_lp 0 d0_ rfl rfl rfl) (ev_i rfl rfl) rfl) rfl) rfl) (fun x7 v8 H1 Ho2 e3 z4 d6 hw => (run_ret hw) _ _ _ (((Same.refl Ho).trans (Same.refl _)).trans e3) (z4.sub (List.Sublist.refl _)) d6)
abbrev s_looked_back : Stmt := topS 5
theorem sc_looked_back : FnScope ["web", "called", "table", "j", "known", "firsts", "i", "hand", "k", "a", "b"] ["web", "called", "table", "j"] (defScope s_looked_back) := ⟨rfl, rfl, rfl, by decide +kernel, rfl, by decide +kernel, by decide +kernel⟩
theorem ok_looked_back {f : Addr} {fd : FuncData} (F : Fun K "looked_back" "looked_back" s_looked_back f fd) {f_is_step : Addr} {fd_is_step : FuncData} (c_is_step : Cal P w K mg base CX0 "is_step" ["web", "i", "j"] 2 (Sp3 (PL K) (PD K) (PD K) (PD K) m_is_step) f_is_step fd_is_step) (m_range : mg "range" = none) (m_zip : mg "zip" = none) (m_max : mg "max" = none) {tk_HANDS : Tok} (g_HANDS : mg "HANDS" = some (.int 8 tk_HANDS)) :
    FnOk P w K mg base CX0 3 f fd ["web", "called", "table", "j"] (Sp4 (PL K) (PL K) (PL K) (PD K) (PD K) m_looked_back) := by
  refine F.ok sc_looked_back (fun vs H Q E h => ?_) (fun cdv A outer s H vs Q E hr h => ?_)
  · obtain ⟨rs, Ho, v0_, x0_, v1_, x1_, v2_, x2_, v3_, x3_, rfl, _⟩ := h
    rfl
  · obtain ⟨rs, Ho, v0_, x0_, v1_, x1_, v2_, x2_, v3_, x3_, rfl, z, d0_, d1_, d2_, d3_, hw⟩ := h
    obtain rfl := d_int d3_
    refine ⟨_, pss_cons (ps_set (i := 4) sc_looked_back.nd rfl (Or.inl rfl) (pe_op op_rep (pe_lst (pa_cons (pe_int) (pa_nil))) (pe_glob (v := .int 8) rfl g_HANDS ⟨_, rfl⟩))) (pss_cons (ps_set (i := 5) sc_looked_back.nd rfl (Or.inl rfl) (pe_lst (pa_nil))) (pss_cons (ps_for PassesOwn.never rfl (pi_range3 (by rfl) m_range (pa_cons (pe_op op_sub (pv 3) (pe_int)) (pa_cons (pe_un un_neg (pe_int)) (pa_cons (pe_un un_neg (pe_int)) (pa_nil))))) (pg_name (i := 6) sc_looked_back.nd rfl (Or.inl rfl)) (pss_cons (ps_asg (pe_ix (zix_list (K := K) rfl) (pv 1) (pv 6) (fun _ _ => rfl)) (zpg_tup (K := K) (n := 2) rfl rfl (pgs_cons (pg_name (i := 7) sc_looked_back.nd rfl (Or.inl rfl)) (pgs_cons (pg_name (i := 8) sc_looked_back.nd rfl (Or.inl rfl)) (pgs_nil))))) (pss_cons (ps_if (PW.pt (pw_and (pt_cmpR (op_ge) (pv 8) (pe_ix (zix_list (K := K) rfl) (pv 4) (pv 7) (fun _ _ => rfl)) (nomark _)) (pw_and1 (pt_val (pe_call c_is_step.ok (hr.mono (by decide)) (by rfl) c_is_step.g c_is_step.kp c_is_step.b .nil pass0 (pa_cons (pv 0) (pa_cons (pv 6) (pa_cons (pv 3) (pa_nil))))))))) (pss_cons (ps_setLc (i := 4) (own := [("a", 9), ("b", 10)]) rfl sc_looked_back.nd rfl rfl (sw_true rfl rfl rfl (by decide +kernel)) (zpi_zip (K := K) rfl (by rfl) m_zip (pa_cons (pv 4) (pa_cons (pe_ix (zix_list (K := K) rfl) (pv 2) (pv 6) (fun _ _ => rfl)) (pa_nil)))) (blkOk_by (N := ["web", "called", "table", "j", "known", "firsts", "i", "hand", "k", "a", "b"]) (sc := defScope s_looked_back) (by decide +kernel)) (fun _ _ _ _ _ => zpg_tup (K := K) (n := 2) rfl rfl (pgs_cons (pg_name (i := 9) sc_looked_back.nd rfl (Or.inl rfl)) (pgs_cons (pg_name (i := 10) sc_looked_back.nd rfl (Or.inl rfl)) (pgs_nil)))) (fun _ _ _ _ _ => pts_nil) (fun _ _ _ _ _ => pe_callB (call_max2 rfl) (by rfl) m_max (by decide +kernel) (pa_cons (pv 9) (pa_cons (pv 10) (pa_nil))))) (pss_cons (ps_if (pt_cmpR (op_ne) (pv 7) (pe_ix (zix_tup (K := K) rfl) (pe_ix (zix_list (K := K) rfl) (pv 1) (pv 3) (fun _ _ => rfl)) pe_int (fun _ _ => rfl)) (nomark _)) (pss_cons (ps_expr (pe_bm PySem.F.plainAttrs_list PySem.F.slot_list_append PySem.F.type_list_append mt_append (pv 5) (pa_cons (pv 6) pa_nil))) (pss_nil)) (pss_nil)) (pss_nil))) (pss_nil)) (pss_nil)))) (pss_cons (ps_asg (pe_op op_add (pe_ix (zix_tup (K := K) rfl) (pe_ix (zix_list (K := K) rfl) (pv 1) (pv 3) (fun _ _ => rfl)) pe_int (fun _ _ => rfl)) (pe_int)) (pg_sub (pv 4) (pe_ix (zix_tup (K := K) rfl) (pe_ix (zix_list (K := K) rfl) (pv 1) (pv 3) (fun _ _ => rfl)) pe_int (fun _ _ => rfl)) set_list)) (pss_cons (ps_ret (pe_tup (pa_cons (pv 4) (pa_cons (pv 5) (pa_nil))))) (pss_nil))))), ?_⟩
    unfold m_looked_back at hw
    refine q_setF (K := K) (fun v => [some v0_, some v1_, some v2_, some (V.int x3_), some v, none, none, none, none, none, none]) z hw (ef_rep (ef_lst (en_cons (ev_int rfl) (en_nil rfl) rfl)) (fun _ => ev_int rfl) rfl) (fun _ => rfl) (fun x7 p9 ws8 H1 Ho2 e3 z4 d5 hw => ?_)
    replace d1_ := LV.mo d1_ e3
    replace d2_ := LV.mo d2_ e3
    replace d0_ := LV.mo d0_ e3
    have es10 := (Same.refl _).trans e3
    refine q_setF (K := K) (fun v => [some v0_, some v1_, some v2_, some (V.int x3_), some (V.ref p9), some v, none, none, none, none, none]) z4 hw (ef_lst (en_nil rfl)) (fun _ => rfl) (fun x17 p19 ws18 H11 Ho12 e13 z14 d15 hw => ?_)
    replace d1_ := LV.mo d1_ e13
    replace d5 := DL.mo d5 e13
    replace d2_ := LV.mo d2_ e13
    replace d0_ := LV.mo d0_ e13
    have es20 := es10.trans e13
    refine q_forL (K := K) (src_X z14 hw (sx_R3 (ev_op v_sub (ev_i rfl rfl) (ev_int rfl) rfl) (ev_neg (ev_int rfl) rfl) (ev_neg (ev_int rfl) rfl) rfl)) (fun (s : (List Int) × (List Int)) (σ : L2.St) (H Ho : Hp) => ∃ (p_known_ : Addr) (ws_known_ : List V) (ws_firsts_ : List V) (y_i_ : Option V) (y_hand_ : Option V) (y_k_ : Option V), σ = [some v0_, some v1_, some v2_, some (V.int x3_), some (V.ref p_known_), some (V.ref p19), y_i_, y_hand_, y_k_, none, none] ∧ Zs ((p19, HO.lst ws_firsts_) :: (p_known_, HO.lst ws_known_) :: rs) H Ho ∧ DL K Ho ws_known_ s.1 ∧ DL K Ho ws_firsts_ s.2) (fun xs21 H22 Ho23 e24 ⟨z25, hw⟩ => ⟨_, hw, _, _, _, _, _, _, rfl, z25, (DL.mo d5 e24), (DL.mo d15 e24)⟩) ?_ ?_ ?_ ?_
    · intro s28 σ29 H30 Ho31 hI32
      obtain ⟨c34, c35⟩ := s28
      obtain ⟨p38, ws36, ws39, y41, y42, y43, rfl, z33, d37, d40⟩ := hI32
      exact ⟨_, z33, (fun _ m => by cases m)⟩
    · intro s44 σ45 H46 Ho47 H48 Ho49 hI50 e51 t52
      obtain ⟨c54, c55⟩ := s44
      obtain ⟨p58, ws56, ws59, y61, y62, y63, rfl, z53, d57, d60⟩ := hI50
      exact ⟨_, _, _, _, _, _, rfl, t52 _ z53, (DL.mo d57 e51), (DL.mo d60 e51)⟩
    · intro a64 x65 s66 σ67 H68 Ho69 N70 e72 hI73 d74 hw
      obtain ⟨c76, c77⟩ := s66
      obtain ⟨p80, ws78, ws81, y83, y84, y85, rfl, z75, d79, d82⟩ := hI73
      replace d1_ := LV.mo d1_ e72
      replace d2_ := LV.mo d2_ e72
      replace d0_ := LV.mo d0_ e72
      have es86 := es20.trans e72
      have pr87 := (Same.refl Ho).trans es86
      unfold m_looked_back_L1 at hw
      try dsimp only at hw
      obtain rfl := d_int d74
      refine gt_name (σ' := [some v0_, some v1_, some v2_, some (V.int x3_), some (V.ref p80), some (V.ref p19), some (V.int a64), y84, y85, none, none]) rfl ?_
      refine q_un z75 hw (ev_op v_ixL (ev_lp 2 d1_ rfl rfl rfl) (ev_i rfl rfl) rfl) (fun t94 v95 H89 Ho90 e91 z92 d93 hw => gt_t2 d93 z92 (fun v96 v97 d98 d99 => ?_))
      replace hw := run_bret (run_bret (hw))
      replace d1_ := LV.mo d1_ e91
      replace d82 := DL.mo d82 e91
      replace d79 := DL.mo d79 e91
      replace d2_ := LV.mo d2_ e91
      replace d0_ := LV.mo d0_ e91
      have es100 := (Same.refl _).trans e91
      obtain rfl := d_int d98
      obtain rfl := d_int d99
      refine q_ifJ z92 hw (fun (s : (List Int) × (List Int)) (σ : L2.St) (H Ho : Hp) => ∃ (p_known_ : Addr) (ws_known_ : List V) (ws_firsts_ : List V), σ = [some v0_, some v1_, some v2_, some (V.int x3_), some (V.ref p_known_), some (V.ref p19), some (V.int a64), some (V.int t94.1), some (V.int t94.2), none, none] ∧ Zs ((p19, HO.lst ws_firsts_) :: (p_known_, HO.lst ws_known_) :: rs) H Ho ∧ DL K Ho ws_known_ s.1 ∧ DL K Ho ws_firsts_ s.2) (et_and (et_of (K := K) (ev_op v_ge (ev_i rfl rfl) (ev_op v_ixL (ev_rt (n := 1) d79 rfl rfl rfl) (ev_i rfl rfl) rfl) rfl)) (et_of (K := K) (ev_call3 (ev_lp 2 d0_ rfl rfl rfl) (ev_i rfl rfl) (ev_i rfl rfl) rfl)) rfl) (fun H104 Ho105 N243 e106 z107 hw => ?_) (fun H104 Ho105 N243 e106 z107 hw => ?_) ?_
      · replace d1_ := LV.mo d1_ e106
        replace d82 := DL.mo d82 e106
        replace d79 := DL.mo d79 e106
        replace d2_ := LV.mo d2_ e106
        replace d0_ := LV.mo d0_ e106
        have es177 := es100.trans e106
        have pr176 := pr87.trans es177
        refine q_setF (K := K) (fun v => [some v0_, some v1_, some v2_, some (V.int x3_), some v, some (V.ref p19), some (V.int a64), some (V.int t94.1), some (V.int t94.2), none, none]) z107 hw (ef_lc (sx_zip (r0 := ((p80, HO.lst ws78) :: rs)) (el_V (r1 := [(p80, .lst ws78)]) (lv_root d79 (.head _)) (fun r m => by cases List.mem_singleton.mp m; exact rt_mem (n := 0) rfl) rfl rfl) (el_D (ev_op v_ixL (ev_lp 2 d2_ rfl rfl rfl) (ev_i rfl rfl) rfl)) (fun _ m => ((List.Sublist.cons _ (List.Sublist.cons₂ _ (List.Sublist.refl _)))).subset m) rfl) (fun _ m => ((List.Sublist.cons _ (List.Sublist.cons₂ _ (List.Sublist.refl _)))).subset m) (fun _ _ _ _ _ e179 z182 d180 _ k181 => gt_t2 d180 z182 (fun v186 v187 d184 d185 => k181 [some v0_, some v1_, some v2_, some (V.int x3_), some (V.ref p80), some (V.ref p19), some (V.int a64), some (V.int t94.1), some (V.int t94.2), some v186, some v187] rfl (et_yes rfl) (ev_c2 c_max2 (ev_var d184 rfl rfl) (ev_var d185 rfl rfl) rfl))) rfl) (fun _ => rfl) (fun x195 p197 ws196 H189 Ho190 e191 z192 d193 hw => ?_)
        replace d1_ := LV.mo d1_ e191
        replace d82 := DL.mo d82 e191
        replace d79 := DL.mo d79 e191
        replace d2_ := LV.mo d2_ e191
        replace d0_ := LV.mo d0_ e191
        have es198 := (Same.refl _).trans e191
        replace z192 := (z192.sub (List.Sublist.cons₂ _ (List.Sublist.cons₂ _ (List.Sublist.cons _ (List.Sublist.refl _))))).ins 1
        replace z192 : Zs ((p19, HO.lst ws81) :: (p197, HO.lst ws196) :: rs) H189 Ho190 := z192
        refine q_ifJ z192 hw (fun (s : (List Int)) (σ : L2.St) (H Ho : Hp) => ∃ (ws_firsts_ : List V), σ = [some v0_, some v1_, some v2_, some (V.int x3_), some (V.ref p197), some (V.ref p19), some (V.int a64), some (V.int t94.1), some (V.int t94.2), none, none] ∧ Zs ((p19, HO.lst ws_firsts_) :: (p197, HO.lst ws196) :: rs) H Ho ∧ DL K Ho ws_firsts_ s) (et_of (K := K) (ev_op v_ne (ev_i rfl rfl) (ev_ixT 0 (f := fun x => x.1) (ev_op v_ixL (ev_lp 2 d1_ rfl rfl rfl) (ev_i rfl rfl) rfl) (fun _ => ⟨_, rfl, rfl⟩) rfl) rfl)) (fun H200 Ho201 N229 e202 z203 hw => ?_) (fun H200 Ho201 N229 e202 z203 hw => ?_) ?_
        · replace d1_ := LV.mo d1_ e202
          replace d82 := DL.mo d82 e202
          replace d193 := DL.mo d193 e202
          replace d2_ := LV.mo d2_ e202
          replace d0_ := LV.mo d0_ e202
          have es218 := es198.trans e202
          have pr217 := pr176.trans es218
          refine q_app (n := 0) z203 d82 rfl hw (ev_i rfl rfl) rfl (fun _ ws223 H219 Ho220 e221 z222 d224 hw => ?_)
          replace z222 : Zs ((p19, HO.lst ws223) :: (p197, HO.lst ws196) :: rs) H219 Ho220 := z222
          replace d1_ := LV.mo d1_ e221
          replace d193 := DL.mo d193 e221
          replace d2_ := LV.mo d2_ e221
          replace d0_ := LV.mo d0_ e221
          have es225 := (Same.refl _).trans e221
          exact run_ret hw _ _ _ es225 ⟨_, rfl, z222, d224⟩
        · replace d1_ := LV.mo d1_ e202
          replace d82 := DL.mo d82 e202
          replace d193 := DL.mo d193 e202
          replace d2_ := LV.mo d2_ e202
          replace d0_ := LV.mo d0_ e202
          have es228 := es198.trans e202
          have pr227 := pr176.trans es228
          exact run_ret hw _ _ _ (Same.refl _) ⟨_, rfl, z203, d82⟩
        · intro s230 σ231 H232 Ho233 e234 hI235 hw
          obtain ⟨ws238, rfl, z236, d239⟩ := hI235
          replace d1_ := LV.mo d1_ e234
          replace d193 := DL.mo d193 e234
          replace d2_ := LV.mo d2_ e234
          replace d0_ := LV.mo d0_ e234
          have es240 := es198.trans e234
          exact run_ret hw _ _ _ es240 ⟨_, _, _, rfl, z236, d193, d239⟩
      · replace d1_ := LV.mo d1_ e106
        replace d82 := DL.mo d82 e106
        replace d79 := DL.mo d79 e106
        replace d2_ := LV.mo d2_ e106
        replace d0_ := LV.mo d0_ e106
        have es242 := es100.trans e106
        have pr241 := pr87.trans es242
        exact run_ret hw _ _ _ (Same.refl _) ⟨_, _, _, rfl, z107, d79, d82⟩
      · intro s244 σ245 H246 Ho247 e248 hI249 hw
        obtain ⟨c251, c252⟩ := s244
        obtain ⟨p255, ws253, ws256, rfl, z250, d254, d257⟩ := hI249
        unfold m_looked_back_R1 at hw
        try dsimp only at hw
        replace d1_ := LV.mo d1_ e248
        replace d2_ := LV.mo d2_ e248
        replace d0_ := LV.mo d0_ e248
        have es258 := es100.trans e248
        exact run_ret hw _ _ _ es258 ⟨_, _, _, _, _, _, rfl, z250, d254, d257⟩
    · intro s259 σ260 H261 Ho262 e263 hI264 hw
      obtain ⟨c266, c267⟩ := s259
      obtain ⟨p270, ws268, ws271, y273, y274, y275, rfl, z265, d269, d272⟩ := hI264
      unfold m_looked_back_R2 at hw
      try dsimp only at hw
      replace d1_ := LV.mo d1_ e263
      have es276 := es20.trans e263
      refine q_sti (n := 1) z265 d269 rfl hw (ev_op v_add (ev_ixT 1 (f := fun x => x.2) (ev_op v_ixL (ev_lp 2 d1_ rfl rfl rfl) (ev_i rfl rfl) rfl) (fun _ => ⟨_, rfl, rfl⟩) rfl) (ev_int rfl) rfl) rfl (ev_ixT 0 (f := fun x => x.1) (ev_op v_ixL (ev_lp 2 d1_ rfl rfl rfl) (ev_i rfl rfl) rfl) (fun _ => ⟨_, rfl, rfl⟩) rfl) (fun _ ws283 H279 Ho280 e281 z282 d284 hw => ?_)
      replace z282 : Zs ((p19, HO.lst ws271) :: (p270, HO.lst ws283) :: rs) H279 Ho280 := z282
      replace d272 := DL.mo d272 e281
      have es287 := es276.trans e281
      obtain ⟨Ho297, e298, z299, d300⟩ := frzN 1 z282 rfl d284
      replace d272 := DL.mo d272 e298
      have es301 := es287.trans e298
      replace z299 : Zs ((p19, HO.lst ws271) :: rs) H279 Ho297 := z299
      obtain ⟨Ho302, e303, z304, d305⟩ := frzN 0 z299 rfl d272
      replace d300 := Z.D.mo d300 e303
      have es306 := es301.trans e303
      replace z304 : Zs (rs) H279 Ho302 := z304
      exact q_ret z304 hw (ev_t2 (ev_var d300 rfl rfl) (ev_var d305 rfl rfl) rfl) (fun x313 v314 H307 Ho308 e309 z310 d312 hw => (run_ret hw) _ _ _ (((Same.refl Ho).trans es306).trans e309) (z310.sub (List.Sublist.refl _)) d312)
abbrev s_notes : Stmt := topS 7
theorem sc_notes : FnScope ["web", "called", "table", "found", "j", "known", "firsts", "i"] ["web"] (defScope s_notes) := ⟨rfl, rfl, rfl, by decide +kernel, rfl, by decide +kernel, by decide +kernel⟩
theorem ok_notes {f : Addr} {fd : FuncData} (F : Fun K "notes" "notes" s_notes f fd) {f_names : Addr} {fd_names : FuncData} (c_names : Cal P w K mg base CX0 "names" ["web"] 1 (Sf1 K (PL K) m_names) f_names fd_names) {f_looked_back : Addr} {fd_looked_back : FuncData} (c_looked_back : Cal P w K mg base CX0 "looked_back" ["web", "called", "table", "j"] 3 (Sp4 (PL K) (PL K) (PL K) (PD K) (PD K) m_looked_back) f_looked_back fd_looked_back) (m_len : mg "len" = none) (m_range : mg "range" = none) (m_sorted : mg "sorted" = none) :
    FnOk P w K mg base CX0 4 f fd ["web"] (Sf1 K (PL K) m_notes) := by
  refine F.ok sc_notes (fun vs H Q E h => ?_) (fun cdv A outer s H vs Q E hr h => ?_)
  · obtain ⟨rs, Ho, v0_, x0_, rfl, _⟩ := h
    rfl
  · obtain ⟨rs, Ho, v0_, x0_, rfl, z, d0_, hw⟩ := h
    refine ⟨_, pss_cons (ps_set (i := 1) sc_notes.nd rfl (Or.inr rfl) (pe_call c_names.ok (hr.mono (by decide)) (by rfl) c_names.g c_names.kp c_names.b .nil pass0 (pa_cons (pv 0) (pa_nil)))) (pss_cons (ps_set (i := 2) sc_notes.nd rfl (Or.inl rfl) (pe_lst (pa_nil))) (pss_cons (ps_set (i := 3) sc_notes.nd rfl (Or.inl rfl) (pe_lst (pa_nil))) (pss_cons (ps_for PassesOwn.never rfl (pi_range1 (by rfl) m_range (pa_cons (pe_callB (zlen (K := K) rfl) (by rfl) m_len (by decide +kernel) (pa_cons (pv 0) (pa_nil))) (pa_nil))) (pg_name (i := 4) sc_notes.nd rfl (Or.inr rfl)) (pss_cons (ps_asg (pe_call c_looked_back.ok (hr.mono (by decide)) (by rfl) c_looked_back.g c_looked_back.kp c_looked_back.b .nil pass0 (pa_cons (pv 0) (pa_cons (pv 1) (pa_cons (pv 2) (pa_cons (pv 4) (pa_nil)))))) (zpg_tup (K := K) (n := 2) rfl rfl (pgs_cons (pg_name (i := 5) sc_notes.nd rfl (Or.inl rfl)) (pgs_cons (pg_name (i := 6) sc_notes.nd rfl (Or.inl rfl)) (pgs_nil))))) (pss_cons (ps_expr (pe_bm PySem.F.plainAttrs_list PySem.F.slot_list_append PySem.F.type_list_append mt_append (pv 2) (pa_cons (pv 5) pa_nil))) (pss_cons (ps_expr (pe_bm PySem.F.plainAttrs_list PySem.F.slot_list_extend PySem.F.type_list_extend mt_extend (pv 3) (pa_cons (pe_lc (own := [("i", 7)]) rfl sc_notes.nd (zpi_list (K := K) rfl (pv 6)) (blkOk_by (N := ["web", "called", "table", "found", "j", "known", "firsts", "i"]) (sc := defScope s_notes) (by decide +kernel)) (fun _ _ _ _ _ => pg_name (i := 7) sc_notes.nd rfl (Or.inl rfl)) (fun _ _ _ _ _ => pts_nil) (fun _ _ _ _ _ => pe_op (zop_catT (K := K) rfl) (pe_ix (zix_list (K := K) rfl) (pv 1) (pv 7) (fun _ _ => rfl)) (pe_ix (zix_list (K := K) rfl) (pv 1) (pv 4) (fun _ _ => rfl)))) pa_nil))) (pss_nil))))) (pss_cons (ps_ret (pe_callB (zsorted (K := K) (d := 4) rfl (by decide)) (by rfl) m_sorted (by decide +kernel) (pa_cons (pv 3) (pa_nil)))) (pss_nil))))), ?_⟩
    unfold m_notes at hw
    refine q_set (P := PD K) (fun v => [some v0_, some v, none, none, none, none, none, none]) z hw (ef_D (ef_call1 (ev_lp 0 d0_ rfl rfl rfl) rfl)) (fun _ => rfl) (fun x8 v7 H2 Ho3 e4 z5 d6 hw => ?_)
    replace d0_ := LV.mo d0_ e4
    have es11 := (Same.refl _).trans e4
    refine q_setF (K := K) (fun v => [some v0_, some v7, some v, none, none, none, none, none]) z5 hw (ef_lst (en_nil rfl)) (fun _ => rfl) (fun x18 p20 ws19 H12 Ho13 e14 z15 d16 hw => ?_)
    replace d6 := Z.D.mo d6 e14
    replace d0_ := LV.mo d0_ e14
    have es21 := es11.trans e14
    refine q_setF (K := K) (fun v => [some v0_, some v7, some (V.ref p20), some v, none, none, none, none]) z15 hw (ef_lst (en_nil rfl)) (fun _ => rfl) (fun x28 p30 ws29 H22 Ho23 e24 z25 d26 hw => ?_)
    replace d6 := Z.D.mo d6 e24
    replace d16 := DL.mo d16 e24
    replace d0_ := LV.mo d0_ e24
    have es31 := es21.trans e24
    refine q_forL (K := K) (src_R1 z25 hw (ev_c1 c_lenZ (ev_lp 2 d0_ rfl rfl rfl) rfl)) (fun (s : (List (List Int)) × (List (P4 Int Int Int Int))) (σ : L2.St) (H Ho : Hp) => ∃ (ws_table_ : List V) (ws_found_ : List V) (y_j_ : Option V) (y_known_ : Option V) (y_firsts_ : Option V), σ = [some v0_, some v7, some (V.ref p20), some (V.ref p30), y_j_, y_known_, y_firsts_, none] ∧ Zs ((p30, HO.lst ws_found_) :: (p20, HO.lst ws_table_) :: rs) H Ho ∧ DL K Ho ws_table_ s.1 ∧ DL K Ho ws_found_ s.2) (fun xs32 H33 Ho34 e35 ⟨z36, hw⟩ => ⟨_, hw, _, _, _, _, _, rfl, z36, (DL.mo d16 e35), (DL.mo d26 e35)⟩) ?_ ?_ ?_ ?_
    · intro s39 σ40 H41 Ho42 hI43
      obtain ⟨c45, c46⟩ := s39
      obtain ⟨ws47, ws49, y51, y52, y53, rfl, z44, d48, d50⟩ := hI43
      exact ⟨_, z44, (fun _ m => by cases m)⟩
    · intro s54 σ55 H56 Ho57 H58 Ho59 hI60 e61 t62
      obtain ⟨c64, c65⟩ := s54
      obtain ⟨ws66, ws68, y70, y71, y72, rfl, z63, d67, d69⟩ := hI60
      exact ⟨_, _, _, _, _, rfl, t62 _ z63, (DL.mo d67 e61), (DL.mo d69 e61)⟩
    · intro a73 x74 s75 σ76 H77 Ho78 N79 e81 hI82 d83 hw
      obtain ⟨c85, c86⟩ := s75
      obtain ⟨ws87, ws89, y91, y92, y93, rfl, z84, d88, d90⟩ := hI82
      replace d6 := Z.D.mo d6 e81
      replace d0_ := LV.mo d0_ e81
      have es94 := es31.trans e81
      have pr95 := (Same.refl Ho).trans es94
      unfold m_notes_L1 at hw
      try dsimp only at hw
      obtain rfl := d_int d83
      refine gt_name (σ' := [some v0_, some v7, some (V.ref p20), some (V.ref p30), some (V.int a73), y92, y93, none]) rfl ?_
      refine q_un z84 hw (ev_call4 (ev_lp 2 d0_ rfl rfl rfl) (ev_DL (ev_var d6 rfl rfl)) (ev_rt (n := 1) d88 rfl rfl rfl) (ev_i rfl rfl) rfl) (fun t102 v103 H97 Ho98 e99 z100 d101 hw => gt_t2 d101 z100 (fun v104 v105 d106 d107 => ?_))
      replace hw := run_bret (run_bret (hw))
      replace d6 := Z.D.mo d6 e99
      replace d90 := DL.mo d90 e99
      replace d88 := DL.mo d88 e99
      replace d0_ := LV.mo d0_ e99
      have es108 := (Same.refl _).trans e99
      refine q_app (n := 1) z100 d88 rfl hw (ev_var d106 rfl rfl) rfl (fun _ ws113 H109 Ho110 e111 z112 d114 hw => ?_)
      replace z112 : Zs ((p30, HO.lst ws89) :: (p20, HO.lst ws113) :: rs) H109 Ho110 := z112
      replace d6 := Z.D.mo d6 e111
      replace d107 := Z.D.mo d107 e111
      replace d90 := DL.mo d90 e111
      replace d106 := Z.D.mo d106 e111
      replace d0_ := LV.mo d0_ e111
      have es115 := es108.trans e111
      refine q_ext (K := K) (n := 0) z112 d90 rfl hw (ef_lc (sx_D (ev_var d107 rfl rfl)) (fun _ m => by cases m) (fun _ v125 _ _ _ e117 z120 d122 _ k119 => k119 [some v0_, some v7, some (V.ref p20), some (V.ref p30), some (V.int a73), some v104, some v105, some v125] rfl (et_yes rfl) (ev_op v_cat22 (ev_op v_ixL (ev_DL (ev_var (Z.D.mo d6 e117) rfl rfl)) (ev_var d122 rfl rfl) rfl) (ev_op v_ixL (ev_DL (ev_var (Z.D.mo d6 e117) rfl rfl)) (ev_i rfl rfl) rfl) rfl)) rfl) rfl (fun _ ws131 H127 Ho128 e129 z130 d132 hw => ?_)
      replace z130 : Zs ((p30, HO.lst ws131) :: (p20, HO.lst ws113) :: rs) H127 Ho128 := z130
      replace d6 := Z.D.mo d6 e129
      replace d107 := Z.D.mo d107 e129
      replace d106 := Z.D.mo d106 e129
      replace d114 := DL.mo d114 e129
      replace d0_ := LV.mo d0_ e129
      have es134 := es115.trans e129
      exact run_ret hw _ _ _ es134 ⟨_, _, _, _, _, rfl, z130, d114, d132⟩
    · intro s135 σ136 H137 Ho138 e139 hI140 hw
      obtain ⟨c142, c143⟩ := s135
      obtain ⟨ws144, ws146, y148, y149, y150, rfl, z141, d145, d147⟩ := hI140
      unfold m_notes_R1 at hw
      try dsimp only at hw
      have es151 := es31.trans e139
      exact q_retF (K := K) z141 hw (ef_c1 c_sortK (ev_rt (n := 0) d147 rfl rfl rfl) rfl) (fun x158 p160 ws156 H152 Ho153 e154 z155 d157 hw => (run_ret hw) _ _ _ _ (((Same.refl Ho).trans es151).trans e154) (z155.sub (List.Sublist.cons₂ _ (List.Sublist.cons _ (List.Sublist.cons _ (List.Sublist.refl _))))) d157)
abbrev s_law_spring : Stmt := topS 9
theorem sc_law_spring : FnScope ["script", "figures", "stir", "cell"] ["script"] (defScope s_law_spring) := ⟨rfl, rfl, rfl, by decide +kernel, rfl, by decide +kernel, by decide +kernel⟩
theorem ok_law_spring {f : Addr} {fd : FuncData} (F : Fun K "_law_spring" "_law_spring" s_law_spring f fd) (m_abs : mg "abs" = none) :
    FnOk P w K mg base CX0 1 f fd ["script"] (Sf1 K (PL K) m_law_spring) := by
  refine F.ok sc_law_spring (fun vs H Q E h => ?_) (fun cdv A outer s H vs Q E hr h => ?_)
  · obtain ⟨rs, Ho, v0_, x0_, rfl, _⟩ := h
    rfl
  · obtain ⟨rs, Ho, v0_, x0_, rfl, z, d0_, hw⟩ := h
    refine ⟨_, pss_cons (ps_set (i := 1) sc_law_spring.nd rfl (Or.inl rfl) (pe_int)) (pss_cons (ps_set (i := 2) sc_law_spring.nd rfl (Or.inl rfl) (pe_int)) (pss_cons (ps_for PassesOwn.never rfl (zpi_list (K := K) rfl (pe_slice (zsl_list (K := K) rfl) (pv 0) po_none (po_some (pe_int)))) (pg_name (i := 3) sc_law_spring.nd rfl (Or.inl rfl)) (pss_cons (ps_if (pt_cmpR (op_ge) (pe_callB call_abs (by rfl) m_abs (by decide +kernel) (pa_cons (pv 3) (pa_nil))) (pe_op op_pow (pe_int) (pe_int)) (nomark _)) (pss_cons (ps_set (i := 1) sc_law_spring.nd rfl (Or.inl rfl) (pe_op op_add (pe_op op_mulW (pv 1) (pe_op op_pow (pe_int) (pe_int))) (pe_op op_mod (pe_callB call_abs (by rfl) m_abs (by decide +kernel) (pa_cons (pv 3) (pa_nil))) (pe_op op_pow (pe_int) (pe_int))))) (pss_nil)) (pss_nil)) (pss_cons (ps_set (i := 2) sc_law_spring.nd rfl (Or.inl rfl) (pe_op op_mod (pe_op op_add (pe_op op_add (pe_op op_mulW (pv 2) (pe_int)) (pe_op op_mod (pv 3) (pe_int))) (pe_int)) (pe_int))) (pss_nil)))) (pss_cons (ps_ret (pe_lst (pa_cons (pv 1) (pa_cons (pv 2) (pa_cons (pe_int) (pa_nil)))))) (pss_nil)))), ?_⟩
    unfold m_law_spring at hw
    refine q_set (P := PD K) (fun v => [some v0_, some v, none, none]) z hw (ev_int rfl) (fun _ => rfl) (fun x7 v6 H1 Ho2 e3 z4 d5 hw => ?_)
    replace d0_ := LV.mo d0_ e3
    have es10 := (Same.refl _).trans e3
    obtain rfl := d_int d5
    refine q_set (P := PD K) (fun v => [some v0_, some (V.int x7), some v, none]) z4 hw (ev_int rfl) (fun _ => rfl) (fun x17 v16 H11 Ho12 e13 z14 d15 hw => ?_)
    replace d0_ := LV.mo d0_ e13
    have es20 := es10.trans e13
    obtain rfl := d_int d15
    refine q_forL (K := K) (src_D z14 hw (ef_D (ef_sl (ev_lp 0 d0_ rfl rfl rfl) (eo_none rfl) (eo_some (K := K) (ev_int rfl) rfl) rfl))) (fun (s : Int × Int) (σ : L2.St) (H Ho : Hp) => ∃ (y_cell_ : Option V), σ = [some v0_, some (V.int s.1), some (V.int s.2), y_cell_] ∧ Zs (rs) H Ho) (fun xs21 H22 Ho23 e24 ⟨z25, hw⟩ => ⟨_, hw, _, rfl, z25⟩) ?_ ?_ ?_ ?_
    · intro s28 σ29 H30 Ho31 hI32
      obtain ⟨c34, c35⟩ := s28
      obtain ⟨y36, rfl, z33⟩ := hI32
      exact ⟨_, z33, (fun _ m => by cases m)⟩
    · intro s37 σ38 H39 Ho40 H41 Ho42 hI43 e44 t45
      obtain ⟨c47, c48⟩ := s37
      obtain ⟨y49, rfl, z46⟩ := hI43
      exact ⟨_, rfl, t45 _ z46⟩
    · intro a50 x51 s52 σ53 H54 Ho55 N56 e58 hI59 d60 hw
      obtain ⟨c62, c63⟩ := s52
      obtain ⟨y64, rfl, z61⟩ := hI59
      have es65 := es20.trans e58
      have pr66 := (Same.refl Ho).trans es65
      unfold m_law_spring_L1 at hw
      try dsimp only at hw
      obtain rfl := d_int d60
      refine gt_name (σ' := [some v0_, some (V.int c62), some (V.int c63), some (V.int a50)]) rfl ?_
      refine q_ifJ z61 hw (fun (s : Int) (σ : L2.St) (H Ho : Hp) => σ = [some v0_, some (V.int s), some (V.int c63), some (V.int a50)] ∧ Zs (rs) H Ho) (et_of (K := K) (ev_op v_ge (ev_c1 c_abs (ev_i rfl rfl) rfl) (ev_op v_pow (ev_int rfl) (ev_int rfl) rfl) rfl)) (fun H67 Ho68 N100 e69 z70 hw => ?_) (fun H67 Ho68 N100 e69 z70 hw => ?_) ?_
      · have es87 := (Same.refl _).trans e69
        have pr86 := pr66.trans es87
        refine q_set (P := PD K) (fun v => [some v0_, some v, some (V.int c63), some (V.int a50)]) z70 hw (ev_op v_add (ev_op v_mul (ev_i rfl rfl) (ev_op v_pow (ev_int rfl) (ev_int rfl) rfl) rfl) (ev_op v_mod (ev_c1 c_abs (ev_i rfl rfl) rfl) (ev_op v_pow (ev_int rfl) (ev_int rfl) rfl) rfl) rfl) (fun _ => rfl) (fun x94 v93 H88 Ho89 e90 z91 d92 hw => ?_)
        have es97 := (Same.refl _).trans e90
        obtain rfl := d_int d92
        exact run_ret hw _ _ _ es97 ⟨rfl, z91⟩
      · have es99 := (Same.refl _).trans e69
        have pr98 := pr66.trans es99
        exact run_ret hw _ _ _ (Same.refl _) ⟨rfl, z70⟩
      · intro s101 σ102 H103 Ho104 e105 hI106 hw
        obtain ⟨rfl, z107⟩ := hI106
        have es109 := (Same.refl _).trans e105
        refine q_set (P := PD K) (fun v => [some v0_, some (V.int s101), some v, some (V.int a50)]) z107 hw (ev_op v_mod (ev_op v_add (ev_op v_add (ev_op v_mul (ev_i rfl rfl) (ev_int rfl) rfl) (ev_op v_mod (ev_i rfl rfl) (ev_int rfl) rfl) rfl) (ev_int rfl) rfl) (ev_int rfl) rfl) (fun _ => rfl) (fun x116 v115 H110 Ho111 e112 z113 d114 hw => ?_)
        have es119 := es109.trans e112
        obtain rfl := d_int d114
        exact run_ret hw _ _ _ es119 ⟨_, rfl, z113⟩
    · intro s120 σ121 H122 Ho123 e124 hI125 hw
      obtain ⟨c127, c128⟩ := s120
      obtain ⟨y129, rfl, z126⟩ := hI125
      unfold m_law_spring_R1 at hw
      try dsimp only at hw
      have es130 := es20.trans e124
      exact q_retF (K := K) z126 hw (ef_lst (en_cons (ev_i rfl rfl) (en_cons (ev_i rfl rfl) (en_cons (ev_int rfl) (en_nil rfl) rfl) rfl) rfl)) (fun x137 p139 ws135 H131 Ho132 e133 z134 d136 hw => (run_ret hw) _ _ _ _ (((Same.refl Ho).trans es130).trans e133) (z134.sub (List.Sublist.cons₂ _ (List.Sublist.refl _))) d136)
abbrev s_law_draw : Stmt := topS 10
theorem sc_law_draw : FnScope ["spring", "many", "found", "stir"] ["spring", "many"] (defScope s_law_draw) := ⟨rfl, rfl, rfl, by decide +kernel, rfl, by decide +kernel, by decide +kernel⟩
theorem ok_law_draw {f : Addr} {fd : FuncData} (F : Fun K "_law_draw" "_law_draw" s_law_draw f fd) :
    FnOk P w K mg base CX0 1 f fd ["spring", "many"] (Sm2 K (PD K) m_law_draw) := by
  refine F.ok sc_law_draw (fun vs H Q E h => ?_) (fun cdv A outer s H vs Q E hr h => ?_)
  · obtain ⟨rs, Ho, p0, w0, s0, v1_, x1_, rfl, _⟩ := h
    rfl
  · obtain ⟨rs, Ho, p0, w0, s0, v1_, x1_, rfl, z, d0, d1_, hw⟩ := h
    obtain rfl := d_int d1_
    refine ⟨_, pss_cons (ps_if (pt_cmpR (op_gt) (pe_ix (zix_list (K := K) rfl) (pv 0) (pe_int) (fun _ _ => rfl)) (pe_int) (nomark _)) (pss_cons (ps_set (i := 2) sc_law_draw.nd rfl (Or.inl rfl) (pe_op op_mod (pe_ix (zix_list (K := K) rfl) (pv 0) (pe_int) (fun _ _ => rfl)) (pv 1))) (pss_cons (ps_asg (pe_op op_fdivW (pe_ix (zix_list (K := K) rfl) (pv 0) (pe_int) (fun _ _ => rfl)) (pv 1)) (pg_sub (pv 0) (pe_int) set_list)) (pss_cons (ps_ret (pv 2)) (pss_nil)))) (pss_nil)) (pss_cons (ps_asg (pe_op op_add (pe_ix (zix_list (K := K) rfl) (pv 0) (pe_int) (fun _ _ => rfl)) (pe_int)) (pg_sub (pv 0) (pe_int) set_list)) (pss_cons (ps_set (i := 3) sc_law_draw.nd rfl (Or.inl rfl) (pe_op op_mod (pe_op op_mulW (pe_ix (zix_list (K := K) rfl) (pv 0) (pe_int) (fun _ _ => rfl)) (pe_ix (zix_list (K := K) rfl) (pv 0) (pe_int) (fun _ _ => rfl))) (pe_int))) (pss_cons (ps_asg (pe_op op_mod (pe_op op_add (pe_op op_add (pv 3) (pe_op op_mulW (pe_op op_mulW (pe_int) (pe_ix (zix_list (K := K) rfl) (pv 0) (pe_int) (fun _ _ => rfl))) (pe_ix (zix_list (K := K) rfl) (pv 0) (pe_int) (fun _ _ => rfl)))) (pe_int)) (pe_int)) (pg_sub (pv 0) (pe_int) set_list)) (pss_cons (ps_ret (pe_op op_mod (pe_op op_fdivW (pe_ix (zix_list (K := K) rfl) (pv 0) (pe_int) (fun _ _ => rfl)) (pe_int)) (pv 1))) (pss_nil))))), ?_⟩
    unfold m_law_draw at hw
    refine q_if z hw (et_of (K := K) (ev_op v_gt (ev_op v_ixL (ev_rt (n := 0) d0 rfl rfl rfl) (ev_int rfl) rfl) (ev_int rfl) rfl)) (fun H2 Ho3 e4 z5 hw => ?_) (fun H2 Ho3 e4 z5 hw => ?_)
    · replace d0 := DL.mo d0 e4
      have es9 := (Same.refl _).trans e4
      refine q_set (P := PD K) (fun v => [some (V.ref p0), some (V.int x1_), some v, none]) z5 hw (ev_op v_mod (ev_op v_ixL (ev_rt (n := 0) d0 rfl rfl rfl) (ev_int rfl) rfl) (ev_i rfl rfl) rfl) (fun _ => rfl) (fun x17 v16 H11 Ho12 e13 z14 d15 hw => ?_)
      replace d0 := DL.mo d0 e13
      have es20 := es9.trans e13
      obtain rfl := d_int d15
      refine q_sti (n := 0) z14 d0 rfl hw (ev_op v_fdiv (ev_op v_ixL (ev_rt (n := 0) d0 rfl rfl rfl) (ev_int rfl) rfl) (ev_i rfl rfl) rfl) rfl (ev_int rfl) (fun _ ws26 H22 Ho23 e24 z25 d27 hw => ?_)
      replace z25 : Zs ((p0, HO.lst ws26) :: rs) H22 Ho23 := z25
      have es30 := es20.trans e24
      exact q_ret (P := PD K) z25 hw (ev_i rfl rfl) (fun x37 v38 H31 Ho32 e33 z34 d36 hw => (run_ret hw) _ _ _ _ (((Same.refl Ho).trans es30).trans e33) (z34.sub (List.Sublist.cons₂ _ (List.Sublist.refl _))) (DL.mo d27 e33) d36)
    · replace d0 := DL.mo d0 e4
      have es44 := (Same.refl _).trans e4
      refine q_nx ?_
      refine q_sti (n := 0) z5 d0 rfl hw (ev_op v_add (ev_op v_ixL (ev_rt (n := 0) d0 rfl rfl rfl) (ev_int rfl) rfl) (ev_int rfl) rfl) rfl (ev_int rfl) (fun _ ws50 H46 Ho47 e48 z49 d51 hw => ?_)
      replace z49 : Zs ((p0, HO.lst ws50) :: rs) H46 Ho47 := z49
      have es54 := es44.trans e48
      refine q_set (P := PD K) (fun v => [some (V.ref p0), some (V.int x1_), none, some v]) z49 hw (ev_op v_mod (ev_op v_mul (ev_op v_ixL (ev_rt (n := 0) d51 rfl rfl rfl) (ev_int rfl) rfl) (ev_op v_ixL (ev_rt (n := 0) d51 rfl rfl rfl) (ev_int rfl) rfl) rfl) (ev_int rfl) rfl) (fun _ => rfl) (fun x63 v62 H57 Ho58 e59 z60 d61 hw => ?_)
      replace d51 := DL.mo d51 e59
      have es66 := es54.trans e59
      obtain rfl := d_int d61
      refine q_sti (n := 0) z60 d51 rfl hw (ev_op v_mod (ev_op v_add (ev_op v_add (ev_i rfl rfl) (ev_op v_mul (ev_op v_mul (ev_int rfl) (ev_op v_ixL (ev_rt (n := 0) d51 rfl rfl rfl) (ev_int rfl) rfl) rfl) (ev_op v_ixL (ev_rt (n := 0) d51 rfl rfl rfl) (ev_int rfl) rfl) rfl) rfl) (ev_int rfl) rfl) (ev_int rfl) rfl) rfl (ev_int rfl) (fun _ ws73 H69 Ho70 e71 z72 d74 hw => ?_)
      replace z72 : Zs ((p0, HO.lst ws73) :: rs) H69 Ho70 := z72
      have es77 := es66.trans e71
      exact q_ret (P := PD K) z72 hw (ev_op v_mod (ev_op v_fdiv (ev_op v_ixL (ev_rt (n := 0) d74 rfl rfl rfl) (ev_int rfl) rfl) (ev_int rfl) rfl) (ev_i rfl rfl) rfl) (fun x84 v85 H78 Ho79 e80 z81 d83 hw => (run_ret hw) _ _ _ _ (((Same.refl Ho).trans es77).trans e80) (z81.sub (List.Sublist.cons₂ _ (List.Sublist.refl _))) (DL.mo d74 e80) d83)
abbrev s_law_web : Stmt := topS 11
theorem sc_law_web : FnScope ["spring", "most", "shape", "size", "hands", "first", "room", "base", "kinds", "web", "at", "hand", "kind"] ["spring", "most"] (defScope s_law_web) := ⟨rfl, rfl, rfl, by decide +kernel, rfl, by decide +kernel, by decide +kernel⟩
theorem ok_law_web {f : Addr} {fd : FuncData} (F : Fun K "_law_web" "_law_web" s_law_web f fd) {f_law_draw : Addr} {fd_law_draw : FuncData} (c_law_draw : Cal P w K mg base CX0 "_law_draw" ["spring", "many"] 1 (Sm2 K (PD K) m_law_draw) f_law_draw fd_law_draw) (m_int : mg "int" = none) (m_range : mg "range" = none) (m_len : mg "len" = none) :
    FnOk P w K mg base CX0 2 f fd ["spring", "most"] (Smf2 K (PD K) m_law_web) := by
  refine F.ok sc_law_web (fun vs H Q E h => ?_) (fun cdv A outer s H vs Q E hr h => ?_)
  · obtain ⟨rs, Ho, p0, w0, s0, v1_, x1_, rfl, _⟩ := h
    rfl
  · obtain ⟨rs, Ho, p0, w0, s0, v1_, x1_, rfl, z, d0, d1_, hw⟩ := h
    obtain rfl := d_int d1_
    refine ⟨_, pss_cons (ps_set (i := 2) sc_law_web.nd rfl (Or.inl rfl) (pe_call c_law_draw.ok (hr.mono (by decide)) (by rfl) c_law_draw.g c_law_draw.kp c_law_draw.b .nil pass0 (pa_cons (pv 0) (pa_cons (pe_int) (pa_nil))))) (pss_cons (ps_set (i := 3) sc_law_web.nd rfl (Or.inl rfl) (pe_call c_law_draw.ok (hr.mono (by decide)) (by rfl) c_law_draw.g c_law_draw.kp c_law_draw.b .nil pass0 (pa_cons (pv 0) (pa_cons (pe_ix (zix_list (K := K) rfl) (pe_lst (pa_cons (pe_int) (pa_cons (pe_int) (pa_cons (pe_op op_add (pv 1) (pe_int)) (pa_nil))))) (pe_op op_add (pe_callTy call_int1 (by rfl) m_int (by decide +kernel) (pa_cons (pe_cmpR (op_eq) (pe_op op_mod (pv 2) (pe_int)) (pe_int) (nomark _)) (pa_nil))) (pe_callTy call_int1 (by rfl) m_int (by decide +kernel) (pa_cons (pe_cmpR (op_eq) (pv 2) (pe_int) (nomark _)) (pa_nil)))) (fun _ _ => rfl)) (pa_nil))))) (pss_cons (ps_set (i := 4) sc_law_web.nd rfl (Or.inl rfl) (pe_op op_add (pe_int) (pe_call c_law_draw.ok (hr.mono (by decide)) (by rfl) c_law_draw.g c_law_draw.kp c_law_draw.b .nil pass0 (pa_cons (pv 0) (pa_cons (pe_int) (pa_nil)))))) (pss_cons (ps_set (i := 5) sc_law_web.nd rfl (Or.inl rfl) (pe_call c_law_draw.ok (hr.mono (by decide)) (by rfl) c_law_draw.g c_law_draw.kp c_law_draw.b .nil pass0 (pa_cons (pv 0) (pa_cons (pe_int) (pa_nil))))) (pss_cons (ps_set (i := 6) sc_law_web.nd rfl (Or.inl rfl) (pe_ix (zix_list (K := K) rfl) (pe_lst (pa_cons (pe_int) (pa_cons (pe_int) (pa_cons (pe_int) (pa_cons (pe_int) (pa_cons (pe_int) (pa_nil))))))) (pe_call c_law_draw.ok (hr.mono (by decide)) (by rfl) c_law_draw.g c_law_draw.kp c_law_draw.b .nil pass0 (pa_cons (pv 0) (pa_cons (pe_int) (pa_nil)))) (fun _ _ => rfl))) (pss_cons (ps_set (i := 7) sc_law_web.nd rfl (Or.inl rfl) (pe_call c_law_draw.ok (hr.mono (by decide)) (by rfl) c_law_draw.g c_law_draw.kp c_law_draw.b .nil pass0 (pa_cons (pv 0) (pa_cons (pe_int) (pa_nil))))) (pss_cons (ps_set (i := 8) sc_law_web.nd rfl (Or.inl rfl) (pe_lst (pa_cons (pe_str) (pa_cons (pe_str) (pa_cons (pe_str) (pa_nil)))))) (pss_cons (ps_if (pt_cmpR (op_eq) (pe_call c_law_draw.ok (hr.mono (by decide)) (by rfl) c_law_draw.g c_law_draw.kp c_law_draw.b .nil pass0 (pa_cons (pv 0) (pa_cons (pe_int) (pa_nil)))) (pe_int) (nomark _)) (pss_cons (ps_set (i := 8) sc_law_web.nd rfl (Or.inl rfl) (pe_lst (pa_cons (pe_str) (pa_cons (pe_str) (pa_cons (pe_str) (pa_cons (pe_str) (pa_cons (pe_str) (pa_cons (pe_str) (pa_nil))))))))) (pss_nil)) (pss_nil)) (pss_cons (ps_set (i := 9) sc_law_web.nd rfl (Or.inl rfl) (pe_lst (pa_nil))) (pss_cons (ps_for PassesOwn.never rfl (pi_range1 (by rfl) m_range (pa_cons (pv 3) (pa_nil))) (pg_name (i := 10) sc_law_web.nd rfl (Or.inl rfl)) (pss_cons (ps_set (i := 11) sc_law_web.nd rfl (Or.inl rfl) (pe_op op_mod (pe_op op_add (pv 5) (pe_call c_law_draw.ok (hr.mono (by decide)) (by rfl) c_law_draw.g c_law_draw.kp c_law_draw.b .nil pass0 (pa_cons (pv 0) (pa_cons (pv 4) (pa_nil))))) (pe_int))) (pss_cons (ps_set (i := 12) sc_law_web.nd rfl (Or.inl rfl) (pe_ix (zix_list (K := K) rfl) (pv 8) (pe_call c_law_draw.ok (hr.mono (by decide)) (by rfl) c_law_draw.g c_law_draw.kp c_law_draw.b .nil pass0 (pa_cons (pv 0) (pa_cons (pe_callB (zlen (K := K) rfl) (by rfl) m_len (by decide +kernel) (pa_cons (pv 8) (pa_nil))) (pa_nil)))) (fun _ _ => rfl))) (pss_cons (ps_expr (pe_bm PySem.F.plainAttrs_list PySem.F.slot_list_append PySem.F.type_list_append mt_append (pv 9) (pa_cons (pe_tup (pa_cons (pv 11) (pa_cons (pv 12) (pa_cons (pe_op op_mod (pe_op op_add (pv 7) (pe_call c_law_draw.ok (hr.mono (by decide)) (by rfl) c_law_draw.g c_law_draw.kp c_law_draw.b .nil pass0 (pa_cons (pv 0) (pa_cons (pv 6) (pa_nil))))) (pe_int)) (pa_nil))))) pa_nil))) (pss_nil))))) (pss_cons (ps_ret (pv 9)) (pss_nil))))))))))), ?_⟩
    unfold m_law_web at hw
    refine q_setM (fun v => [some (V.ref p0), some (V.int x1_), some v, none, none, none, none, none, none, none, none, none, none]) z d0 hw (em_call2 rfl (em_of (fun _ => ev_int rfl) rfl) rfl) (fun _ => rfl) (fun x9 _ v8 ws12 H3 Ho4 e5 z6 d13 d7 hw => ?_)
    have es14 := (Same.refl _).trans e5
    obtain rfl := d_int d7
    refine q_setM (fun v => [some (V.ref p0), some (V.int x1_), some (V.int x9), some v, none, none, none, none, none, none, none, none, none]) z6 d13 hw (em_call2 rfl (em_of (fun _ => ev_op v_ixL (ef_L (ef_lst (en_cons (ev_int rfl) (en_cons (ev_int rfl) (en_cons (ev_op v_add (ev_i rfl rfl) (ev_int rfl) rfl) (en_nil rfl) rfl) rfl) rfl))) (ev_op v_add (ev_c1 c_intB (ev_op v_eq (ev_op v_mod (ev_i rfl rfl) (ev_int rfl) rfl) (ev_int rfl) rfl) rfl) (ev_c1 c_intB (ev_op v_eq (ev_i rfl rfl) (ev_int rfl) rfl) rfl) rfl) rfl) rfl) rfl) (fun _ => rfl) (fun x24 _ v23 ws27 H18 Ho19 e20 z21 d28 d22 hw => ?_)
    have es29 := es14.trans e20
    obtain rfl := d_int d22
    refine q_setM (fun v => [some (V.ref p0), some (V.int x1_), some (V.int x9), some (V.int x24), some v, none, none, none, none, none, none, none, none]) z21 d28 hw (em_op v_add (em_of (fun _ => ev_int rfl) rfl) (em_call2 rfl (em_of (fun _ => ev_int rfl) rfl) rfl) rfl) (fun _ => rfl) (fun x38 _ v37 ws41 H32 Ho33 e34 z35 d42 d36 hw => ?_)
    have es43 := es29.trans e34
    obtain rfl := d_int d36
    refine q_setM (fun v => [some (V.ref p0), some (V.int x1_), some (V.int x9), some (V.int x24), some (V.int x38), some v, none, none, none, none, none, none, none]) z35 d42 hw (em_call2 rfl (em_of (fun _ => ev_int rfl) rfl) rfl) (fun _ => rfl) (fun x52 _ v51 ws55 H46 Ho47 e48 z49 d56 d50 hw => ?_)
    have es57 := es43.trans e48
    obtain rfl := d_int d50
    refine q_setM (fun v => [some (V.ref p0), some (V.int x1_), some (V.int x9), some (V.int x24), some (V.int x38), some (V.int x52), some v, none, none, none, none, none, none]) z49 d56 hw (em_opL v_ixL (em_of (fun _ => ef_D (ef_lst (en_cons (ev_int rfl) (en_cons (ev_int rfl) (en_cons (ev_int rfl) (en_cons (ev_int rfl) (en_cons (ev_int rfl) (en_nil rfl) rfl) rfl) rfl) rfl) rfl))) rfl) (em_call2 rfl (em_of (fun _ => ev_int rfl) rfl) rfl) rfl) (fun _ => rfl) (fun x67 _ v66 ws70 H61 Ho62 e63 z64 d71 d65 hw => ?_)
    have es72 := es57.trans e63
    obtain rfl := d_int d65
    refine q_setM (fun v => [some (V.ref p0), some (V.int x1_), some (V.int x9), some (V.int x24), some (V.int x38), some (V.int x52), some (V.int x67), some v, none, none, none, none, none]) z64 d71 hw (em_call2 rfl (em_of (fun _ => ev_int rfl) rfl) rfl) (fun _ => rfl) (fun x81 _ v80 ws84 H75 Ho76 e77 z78 d85 d79 hw => ?_)
    have es86 := es72.trans e77
    obtain rfl := d_int d79
    refine q_set (P := PD K) (fun v => [some (V.ref p0), some (V.int x1_), some (V.int x9), some (V.int x24), some (V.int x38), some (V.int x52), some (V.int x67), some (V.int x81), some v, none, none, none, none]) z78 hw (ef_D (ef_lst (en_cons (ev_str rfl) (en_cons (ev_str rfl) (en_cons (ev_str rfl) (en_nil rfl) rfl) rfl) rfl))) (fun _ => rfl) (fun x93 v92 H87 Ho88 e89 z90 d91 hw => ?_)
    replace d85 := DL.mo d85 e89
    have es96 := es86.trans e89
    refine q_ifJM z90 d85 hw (fun (s : (List Int) × (List Str)) (σ : L2.St) (H Ho : Hp) => ∃ (ws_spring_ : List V) (v_kinds_ : V), σ = [some (V.ref p0), some (V.int x1_), some (V.int x9), some (V.int x24), some (V.int x38), some (V.int x52), some (V.int x67), some (V.int x81), some v_kinds_, none, none, none, none] ∧ Zs ((p0, HO.lst ws_spring_) :: rs) H Ho ∧ DL K Ho ws_spring_ s.1 ∧ D K Ho v_kinds_ s.2) (emt_t (em_op v_eq (em_call2 rfl (em_of (fun _ => ev_int rfl) rfl) rfl) (em_of (fun _ => ev_int rfl) rfl) rfl)) (fun _ ws103 H99 Ho100 N132 e101 z102 d104 hw => ?_) (fun _ ws103 H99 Ho100 N132 e101 z102 d104 hw => ?_) ?_
    · replace d91 := Z.D.mo d91 e101
      have es119 := es96.trans e101
      have pr118 := (Same.refl Ho).trans es119
      refine q_set (P := PD K) (fun v => [some (V.ref p0), some (V.int x1_), some (V.int x9), some (V.int x24), some (V.int x38), some (V.int x52), some (V.int x67), some (V.int x81), some v, none, none, none, none]) z102 hw (ef_D (ef_lst (en_cons (ev_str rfl) (en_cons (ev_str rfl) (en_cons (ev_str rfl) (en_cons (ev_str rfl) (en_cons (ev_str rfl) (en_cons (ev_str rfl) (en_nil rfl) rfl) rfl) rfl) rfl) rfl) rfl))) (fun _ => rfl) (fun x126 v125 H120 Ho121 e122 z123 d124 hw => ?_)
      replace d104 := DL.mo d104 e122
      have es129 := (Same.refl _).trans e122
      exact run_ret hw _ _ _ es129 ⟨_, _, rfl, z123, d104, d124⟩
    · replace d91 := Z.D.mo d91 e101
      have es131 := es96.trans e101
      have pr130 := (Same.refl Ho).trans es131
      exact run_ret hw _ _ _ (Same.refl _) ⟨_, _, rfl, z102, d104, d91⟩
    · intro s133 σ134 H135 Ho136 e137 hI138 hw
      obtain ⟨c140, c141⟩ := s133
      obtain ⟨ws142, v144, rfl, z139, d143, d145⟩ := hI138
      unfold m_law_web_R2 at hw
      try dsimp only at hw
      have es146 := es96.trans e137
      refine q_setF (K := K) (fun v => [some (V.ref p0), some (V.int x1_), some (V.int x9), some (V.int x24), some (V.int x38), some (V.int x52), some (V.int x67), some (V.int x81), some v144, some v, none, none, none]) z139 hw (ef_lst (en_nil rfl)) (fun _ => rfl) (fun x153 p155 ws154 H147 Ho148 e149 z150 d151 hw => ?_)
      replace d145 := Z.D.mo d145 e149
      replace d143 := DL.mo d143 e149
      have es156 := es146.trans e149
      replace z150 := z150.sw1
      refine q_forL (K := K) (src_R1 z150 hw (ev_i rfl rfl)) (fun (s : (List Int) × (List (P3 Int Str Int))) (σ : L2.St) (H Ho : Hp) => ∃ (ws_spring_ : List V) (ws_web_ : List V) (y_at_ : Option V) (y_hand_ : Option V) (y_kind_ : Option V), σ = [some (V.ref p0), some (V.int x1_), some (V.int x9), some (V.int x24), some (V.int x38), some (V.int x52), some (V.int x67), some (V.int x81), some v144, some (V.ref p155), y_at_, y_hand_, y_kind_] ∧ Zs ((p0, HO.lst ws_spring_) :: (p155, HO.lst ws_web_) :: rs) H Ho ∧ DL K Ho ws_spring_ s.1 ∧ DL K Ho ws_web_ s.2) (fun xs157 H158 Ho159 e160 ⟨z161, hw⟩ => ⟨_, hw, _, _, _, _, _, rfl, z161, (DL.mo d143 e160), (DL.mo d151 e160)⟩) ?_ ?_ ?_ ?_
      · intro s164 σ165 H166 Ho167 hI168
        obtain ⟨c170, c171⟩ := s164
        obtain ⟨ws172, ws174, y176, y177, y178, rfl, z169, d173, d175⟩ := hI168
        exact ⟨_, z169, (fun _ m => by cases m)⟩
      · intro s179 σ180 H181 Ho182 H183 Ho184 hI185 e186 t187
        obtain ⟨c189, c190⟩ := s179
        obtain ⟨ws191, ws193, y195, y196, y197, rfl, z188, d192, d194⟩ := hI185
        exact ⟨_, _, _, _, _, rfl, t187 _ z188, (DL.mo d192 e186), (DL.mo d194 e186)⟩
      · intro a198 x199 s200 σ201 H202 Ho203 N204 e206 hI207 d208 hw
        obtain ⟨c210, c211⟩ := s200
        obtain ⟨ws212, ws214, y216, y217, y218, rfl, z209, d213, d215⟩ := hI207
        replace d145 := Z.D.mo d145 e206
        have es219 := es156.trans e206
        have pr220 := (Same.refl Ho).trans es219
        unfold m_law_web_L1 at hw
        try dsimp only at hw
        obtain rfl := d_int d208
        refine gt_name (σ' := [some (V.ref p0), some (V.int x1_), some (V.int x9), some (V.int x24), some (V.int x38), some (V.int x52), some (V.int x67), some (V.int x81), some v144, some (V.ref p155), some (V.int a198), y217, y218]) rfl ?_
        refine q_setM (fun v => [some (V.ref p0), some (V.int x1_), some (V.int x9), some (V.int x24), some (V.int x38), some (V.int x52), some (V.int x67), some (V.int x81), some v144, some (V.ref p155), some (V.int a198), some v, y218]) z209 d213 hw (em_op v_mod (em_op v_add (em_of (fun _ => ev_i rfl rfl) rfl) (em_call2 rfl (em_of (fun _ => ev_i rfl rfl) rfl) rfl) rfl) (em_of (fun _ => ev_int rfl) rfl) rfl) (fun _ => rfl) (fun x229 _ v228 ws232 H223 Ho224 e225 z226 d233 d227 hw => ?_)
        replace d145 := Z.D.mo d145 e225
        replace d215 := DL.mo d215 e225
        have es234 := (Same.refl _).trans e225
        obtain rfl := d_int d227
        refine q_setM (fun v => [some (V.ref p0), some (V.int x1_), some (V.int x9), some (V.int x24), some (V.int x38), some (V.int x52), some (V.int x67), some (V.int x81), some v144, some (V.ref p155), some (V.int a198), some (V.int x229), some v]) z226 d233 hw (em_opL v_ixL (em_of (fun _ => ev_var d145 rfl rfl) rfl) (em_call2 rfl (em_of (fun _ => ev_c1 c_lenZ (ev_DL (ev_var d145 rfl rfl)) rfl) rfl) rfl) rfl) (fun _ => rfl) (fun x244 _ v243 ws247 H238 Ho239 e240 z241 d248 d242 hw => ?_)
        replace d145 := Z.D.mo d145 e240
        replace d215 := DL.mo d215 e240
        have es249 := es234.trans e240
        obtain rfl := d_str d242
        refine q_appM (n := 0) z241 d248 d215 rfl hw (em_t3 (em_of (fun _ => ev_i rfl rfl) rfl) (em_of (fun _ => ev_s rfl rfl) rfl) (em_op v_mod (em_op v_add (em_of (fun _ => ev_i rfl rfl) rfl) (em_call2 rfl (em_of (fun _ => ev_i rfl rfl) rfl) rfl) rfl) (em_of (fun _ => ev_int rfl) rfl) rfl) rfl) rfl (fun _ _ ws256 ws258 H252 Ho253 e254 z255 d259 d257 hw => ?_)
        replace z255 : Zs ((p0, HO.lst ws258) :: (p155, HO.lst ws256) :: rs) H252 Ho253 := z255
        replace d145 := Z.D.mo d145 e254
        have es262 := es249.trans e254
        exact run_ret hw _ _ _ es262 ⟨_, _, _, _, _, rfl, z255, d259, d257⟩
      · intro s263 σ264 H265 Ho266 e267 hI268 hw
        obtain ⟨c270, c271⟩ := s263
        obtain ⟨ws272, ws274, y276, y277, y278, rfl, z269, d273, d275⟩ := hI268
        unfold m_law_web_R1 at hw
        try dsimp only at hw
        have es279 := es156.trans e267
        refine q_retv rfl ?_
        exact (run_ret hw) _ _ _ _ _ ((Same.refl Ho).trans es279) (z269.sub (List.Sublist.cons₂ _ (List.Sublist.cons₂ _ (List.Sublist.refl _)))).sw1 d273 d275
abbrev s_law_calls : Stmt := topS 12
theorem sc_law_calls : FnScope ["web", "many", "found", "hand", "kind", "cell"] ["web"] (defScope s_law_calls) := ⟨rfl, rfl, rfl, by decide +kernel, rfl, by decide +kernel, by decide +kernel⟩
theorem ok_law_calls {f : Addr} {fd : FuncData} (F : Fun K "_law_calls" "_law_calls" s_law_calls f fd) :
    FnOk P w K mg base CX0 1 f fd ["web"] (Sf1 K (PL K) m_law_calls) := by
  refine F.ok sc_law_calls (fun vs H Q E h => ?_) (fun cdv A outer s H vs Q E hr h => ?_)
  · obtain ⟨rs, Ho, v0_, x0_, rfl, _⟩ := h
    rfl
  · obtain ⟨rs, Ho, v0_, x0_, rfl, z, d0_, hw⟩ := h
    refine ⟨_, pss_cons (ps_set (i := 1) sc_law_calls.nd rfl (Or.inl rfl) (pe_op op_rep (pe_lst (pa_cons (pe_int) (pa_nil))) (pe_int))) (pss_cons (ps_set (i := 2) sc_law_calls.nd rfl (Or.inl rfl) (pe_lst (pa_nil))) (pss_cons (ps_for PassesOwn.never rfl (zpi_list (K := K) rfl (pv 0)) (zpg_tup (K := K) (n := 3) rfl rfl (pgs_cons (pg_name (i := 3) sc_law_calls.nd rfl (Or.inl rfl)) (pgs_cons (pg_name (i := 4) sc_law_calls.nd rfl (Or.inl rfl)) (pgs_cons (pg_name (i := 5) sc_law_calls.nd rfl (Or.inl rfl)) (pgs_nil))))) (pss_cons (ps_expr (pe_bm PySem.F.plainAttrs_list PySem.F.slot_list_append PySem.F.type_list_append mt_append (pv 2) (pa_cons (pe_tup (pa_cons (pv 3) (pa_cons (pe_ix (zix_list (K := K) rfl) (pv 1) (pv 3) (fun _ _ => rfl)) (pa_nil)))) pa_nil))) (pss_cons (ps_asg (pe_op op_add (pe_ix (zix_list (K := K) rfl) (pv 1) (pv 3) (fun _ _ => rfl)) (pe_int)) (pg_sub (pv 1) (pv 3) set_list)) (pss_nil)))) (pss_cons (ps_ret (pv 2)) (pss_nil)))), ?_⟩
    unfold m_law_calls at hw
    refine q_setF (K := K) (fun v => [some v0_, some v, none, none, none, none]) z hw (ef_rep (ef_lst (en_cons (ev_int rfl) (en_nil rfl) rfl)) (fun _ => ev_int rfl) rfl) (fun _ => rfl) (fun x7 p9 ws8 H1 Ho2 e3 z4 d5 hw => ?_)
    replace d0_ := LV.mo d0_ e3
    have es10 := (Same.refl _).trans e3
    refine q_setF (K := K) (fun v => [some v0_, some (V.ref p9), some v, none, none, none]) z4 hw (ef_lst (en_nil rfl)) (fun _ => rfl) (fun x17 p19 ws18 H11 Ho12 e13 z14 d15 hw => ?_)
    replace d5 := DL.mo d5 e13
    replace d0_ := LV.mo d0_ e13
    have es20 := es10.trans e13
    refine q_forLV z14 hw d0_ rfl (subN 2 rfl) (fun (s : (List Int) × (List (Int × Int))) (σ : L2.St) (H Ho : Hp) => ∃ (ws_many_ : List V) (ws_found_ : List V) (y_hand_ : Option V) (y_kind_ : Option V) (y_cell_ : Option V), σ = [some v0_, some (V.ref p9), some (V.ref p19), y_hand_, y_kind_, y_cell_] ∧ Zs ((p19, HO.lst ws_found_) :: (p9, HO.lst ws_many_) :: rs) H Ho ∧ DL K Ho ws_many_ s.1 ∧ DL K Ho ws_found_ s.2) ⟨_, _, _, _, _, rfl, z14, d5, d15⟩ ?_ ?_ ?_ ?_
    · intro s28 σ29 H30 Ho31 hI32
      obtain ⟨c34, c35⟩ := s28
      obtain ⟨ws36, ws38, y40, y41, y42, rfl, z33, d37, d39⟩ := hI32
      exact ⟨_, z33, (subN 2 rfl)⟩
    · intro s43 σ44 H45 Ho46 H47 Ho48 hI49 e50 t51
      obtain ⟨c53, c54⟩ := s43
      obtain ⟨ws55, ws57, y59, y60, y61, rfl, z52, d56, d58⟩ := hI49
      exact ⟨_, _, _, _, _, rfl, t51 _ z52, (DL.mo d56 e50), (DL.mo d58 e50)⟩
    · intro a62 x63 s64 σ65 H66 Ho67 N68 e70 hI71 d72 hw
      obtain ⟨c74, c75⟩ := s64
      obtain ⟨ws76, ws78, y80, y81, y82, rfl, z73, d77, d79⟩ := hI71
      have es83 := es20.trans e70
      have pr84 := (Same.refl Ho).trans es83
      unfold m_law_calls_L1 at hw
      try dsimp only at hw
      refine gt_t3 d72 z73 (fun v85 v86 v87 d88 d89 d90 => ?_)
      obtain rfl := d_int d88
      obtain rfl := d_str d89
      obtain rfl := d_int d90
      refine q_app (n := 0) z73 d79 rfl hw (ev_t2 (ev_i rfl rfl) (ev_op v_ixL (ev_rt (n := 1) d77 rfl rfl rfl) (ev_i rfl rfl) rfl) rfl) rfl (fun _ ws96 H92 Ho93 e94 z95 d97 hw => ?_)
      replace z95 : Zs ((p19, HO.lst ws96) :: (p9, HO.lst ws76) :: rs) H92 Ho93 := z95
      replace d77 := DL.mo d77 e94
      have es98 := (Same.refl _).trans e94
      refine q_sti (n := 1) z95 d77 rfl hw (ev_op v_add (ev_op v_ixL (ev_rt (n := 1) d77 rfl rfl rfl) (ev_i rfl rfl) rfl) (ev_int rfl) rfl) rfl (ev_i rfl rfl) (fun _ ws105 H101 Ho102 e103 z104 d106 hw => ?_)
      replace z104 : Zs ((p19, HO.lst ws96) :: (p9, HO.lst ws105) :: rs) H101 Ho102 := z104
      replace d97 := DL.mo d97 e103
      have es109 := es98.trans e103
      exact run_ret hw _ _ _ es109 ⟨_, _, _, _, _, rfl, z104, d106, d97⟩
    · intro s110 σ111 H112 Ho113 e114 hI115 hw
      obtain ⟨c117, c118⟩ := s110
      obtain ⟨ws119, ws121, y123, y124, y125, rfl, z116, d120, d122⟩ := hI115
      unfold m_law_calls_R1 at hw
      try dsimp only at hw
      have es126 := es20.trans e114
      refine q_retv rfl ?_
      exact (run_ret hw) _ _ _ _ ((Same.refl Ho).trans es126) (z116.sub (List.Sublist.cons₂ _ (List.Sublist.cons _ (List.Sublist.refl _)))) d122
abbrev s_law_meets : Stmt := topS 13
theorem sc_law_meets : FnScope ["one", "other"] ["one", "other"] (defScope s_law_meets) := ⟨rfl, rfl, rfl, by decide +kernel, rfl, by decide +kernel, by decide +kernel⟩
theorem ok_law_meets {f : Addr} {fd : FuncData} (F : Fun K "_law_meets" "_law_meets" s_law_meets f fd) :
    FnOk P w K mg base CX0 1 f fd ["one", "other"] (Sp2 (PD K) (PD K) (PD K) m_law_meets) := by
  refine F.ok sc_law_meets (fun vs H Q E h => ?_) (fun cdv A outer s H vs Q E hr h => ?_)
  · obtain ⟨rs, Ho, v0_, x0_, v1_, x1_, rfl, _⟩ := h
    rfl
  · obtain ⟨rs, Ho, v0_, x0_, v1_, x1_, rfl, z, d0_, d1_, hw⟩ := h
    refine ⟨_, pss_cons (ps_if (PW.pt (pw_or (pt_cmpR (op_eq) (pe_ix (zix_tup (K := K) rfl) (pv 0) pe_int (fun _ _ => rfl)) (pe_ix (zix_tup (K := K) rfl) (pv 1) pe_int (fun _ _ => rfl)) (nomark _)) (pw_or1 (pt_cmpR (op_ne) (pe_ix (zix_tup (K := K) rfl) (pv 0) pe_int (fun _ _ => rfl)) (pe_ix (zix_tup (K := K) rfl) (pv 1) pe_int (fun _ _ => rfl)) (nomark _))))) (pss_cons (ps_ret (pe_bl)) (pss_nil)) (pss_nil)) (pss_cons (ps_ret (pe_or (pe_cmpR (op_ne) (pe_ix (zix_tup (K := K) rfl) (pv 0) pe_int (fun _ _ => rfl)) (pe_str) (nomark _)) (pe_one (pe_cmpR (op_ne) (pe_ix (zix_tup (K := K) rfl) (pv 1) pe_int (fun _ _ => rfl)) (pe_str) (nomark _))))) (pss_nil)), ?_⟩
    unfold m_law_meets at hw
    refine q_if z hw (et_or (et_of (K := K) (ev_op v_eq (ev_ixT 0 (f := fun x => x.a) (ev_var d0_ rfl rfl) (fun _ => ⟨_, rfl, rfl⟩) rfl) (ev_ixT 0 (f := fun x => x.a) (ev_var d1_ rfl rfl) (fun _ => ⟨_, rfl, rfl⟩) rfl) rfl)) (et_of (K := K) (ev_op v_ne (ev_ixT 2 (f := fun x => x.c) (ev_var d0_ rfl rfl) (fun _ => ⟨_, rfl, rfl⟩) rfl) (ev_ixT 2 (f := fun x => x.c) (ev_var d1_ rfl rfl) (fun _ => ⟨_, rfl, rfl⟩) rfl) rfl)) rfl) (fun H2 Ho3 e4 z5 hw => ?_) (fun H2 Ho3 e4 z5 hw => ?_)
    · replace d0_ := Z.D.mo d0_ e4
      replace d1_ := Z.D.mo d1_ e4
      have es9 := (Same.refl _).trans e4
      exact q_ret z5 hw (ev_bl rfl) (fun x16 v17 H10 Ho11 e12 z13 d15 hw => (run_ret hw) _ _ _ (((Same.refl Ho).trans es9).trans e12) (z13.sub (List.Sublist.refl _)) d15)
    · replace d0_ := Z.D.mo d0_ e4
      replace d1_ := Z.D.mo d1_ e4
      have es21 := (Same.refl _).trans e4
      refine q_nx ?_
      exact q_ret z5 hw (ev_orV (ev_op v_ne (ev_ixT 1 (f := fun x => x.b) (ev_var d0_ rfl rfl) (fun _ => ⟨_, rfl, rfl⟩) rfl) (ev_str rfl) rfl) (ev_op v_ne (ev_ixT 1 (f := fun x => x.b) (ev_var d1_ rfl rfl) (fun _ => ⟨_, rfl, rfl⟩) rfl) (ev_str rfl) rfl) rfl) (fun x28 v29 H22 Ho23 e24 z25 d27 hw => (run_ret hw) _ _ _ (((Same.refl Ho).trans es21).trans e24) (z25.sub (List.Sublist.refl _)) d27)
abbrev s_law_step : Stmt := topS 14
theorem sc_law_step : FnScope ["one", "other"] ["one", "other"] (defScope s_law_step) := ⟨rfl, rfl, rfl, by decide +kernel, rfl, by decide +kernel, by decide +kernel⟩
theorem ok_law_step {f : Addr} {fd : FuncData} (F : Fun K "_law_step" "_law_step" s_law_step f fd) {f_law_meets : Addr} {fd_law_meets : FuncData} (c_law_meets : Cal P w K mg base CX0 "_law_meets" ["one", "other"] 1 (Sp2 (PD K) (PD K) (PD K) m_law_meets) f_law_meets fd_law_meets) :
    FnOk P w K mg base CX0 2 f fd ["one", "other"] (Sp2 (PD K) (PD K) (PD K) m_law_step) := by
  refine F.ok sc_law_step (fun vs H Q E h => ?_) (fun cdv A outer s H vs Q E hr h => ?_)
  · obtain ⟨rs, Ho, v0_, x0_, v1_, x1_, rfl, _⟩ := h
    rfl
  · obtain ⟨rs, Ho, v0_, x0_, v1_, x1_, rfl, z, d0_, d1_, hw⟩ := h
    refine ⟨_, pss_cons (ps_ret (pe_or (pe_cmpR (op_eq) (pe_ix (zix_tup (K := K) rfl) (pv 0) pe_int (fun _ _ => rfl)) (pe_ix (zix_tup (K := K) rfl) (pv 1) pe_int (fun _ _ => rfl)) (nomark _)) (pe_one (pe_call c_law_meets.ok (hr.mono (by decide)) (by rfl) c_law_meets.g c_law_meets.kp c_law_meets.b .nil pass0 (pa_cons (pv 0) (pa_cons (pv 1) (pa_nil))))))) (pss_nil), ?_⟩
    unfold m_law_step at hw
    exact q_ret z hw (ev_orV (ev_op v_eq (ev_ixT 0 (f := fun x => x.a) (ev_var d0_ rfl rfl) (fun _ => ⟨_, rfl, rfl⟩) rfl) (ev_ixT 0 (f := fun x => x.a) (ev_var d1_ rfl rfl) (fun _ => ⟨_, rfl, rfl⟩) rfl) rfl) (ev_call2 (ev_var d0_ rfl rfl) (ev_var d1_ rfl rfl) rfl) rfl) (fun x7 v8 H1 Ho2 e3 z4 d6 hw => (run_ret hw) _ _ _ (((Same.refl Ho).trans (Same.refl _)).trans e3) (z4.sub (List.Sublist.refl _)) d6)
abbrev s_law_table : Stmt := topS 15
theorem sc_law_table : FnScope ["web", "calls", "table", "j", "row", "i", "hand"] ["web", "calls"] (defScope s_law_table) := ⟨rfl, rfl, rfl, by decide +kernel, rfl, by decide +kernel, by decide +kernel⟩
theorem ok_law_table {f : Addr} {fd : FuncData} (F : Fun K "_law_table" "_law_table" s_law_table f fd) {f_law_step : Addr} {fd_law_step : FuncData} (c_law_step : Cal P w K mg base CX0 "_law_step" ["one", "other"] 2 (Sp2 (PD K) (PD K) (PD K) m_law_step) f_law_step fd_law_step) (m_len : mg "len" = none) (m_range : mg "range" = none) (m_max : mg "max" = none) :
    FnOk P w K mg base CX0 3 f fd ["web", "calls"] (Sf2 K (PL K) (PL K) m_law_table) := by
  refine F.ok sc_law_table (fun vs H Q E h => ?_) (fun cdv A outer s H vs Q E hr h => ?_)
  · obtain ⟨rs, Ho, v0_, x0_, v1_, x1_, rfl, _⟩ := h
    rfl
  · obtain ⟨rs, Ho, v0_, x0_, v1_, x1_, rfl, z, d0_, d1_, hw⟩ := h
    refine ⟨_, pss_cons (ps_set (i := 2) sc_law_table.nd rfl (Or.inr rfl) (pe_lst (pa_nil))) (pss_cons (ps_for PassesOwn.never rfl (pi_range1 (by rfl) m_range (pa_cons (pe_callB (zlen (K := K) rfl) (by rfl) m_len (by decide +kernel) (pa_cons (pv 0) (pa_nil))) (pa_nil))) (pg_name (i := 3) sc_law_table.nd rfl (Or.inl rfl)) (pss_cons (ps_set (i := 4) sc_law_table.nd rfl (Or.inr rfl) (pe_op op_rep (pe_lst (pa_cons (pe_int) (pa_nil))) (pe_int))) (pss_cons (ps_for PassesOwn.never rfl (pi_range1 (by rfl) m_range (pa_cons (pv 3) (pa_nil))) (pg_name (i := 5) sc_law_table.nd rfl (Or.inr rfl)) (pss_cons (ps_if (pt_val (pe_call c_law_step.ok (hr.mono (by decide)) (by rfl) c_law_step.g c_law_step.kp c_law_step.b .nil pass0 (pa_cons (pe_ix (zix_list (K := K) rfl) (pv 0) (pv 5) (fun _ _ => rfl)) (pa_cons (pe_ix (zix_list (K := K) rfl) (pv 0) (pv 3) (fun _ _ => rfl)) (pa_nil))))) (pss_cons (ps_set (i := 4) sc_law_table.nd rfl (Or.inr rfl) (pe_lc (own := [("hand", 6)]) rfl sc_law_table.nd (pi_range1 (by rfl) m_range (pa_cons (pe_int) (pa_nil))) (blkOk_by (N := ["web", "calls", "table", "j", "row", "i", "hand"]) (sc := defScope s_law_table) (by decide +kernel)) (fun _ _ _ _ _ => pg_name (i := 6) sc_law_table.nd rfl (Or.inl rfl)) (fun _ _ _ _ _ => pts_nil) (fun _ _ _ _ _ => pe_callB (call_max2 rfl) (by rfl) m_max (by decide +kernel) (pa_cons (pe_ix (zix_list (K := K) rfl) (pv 4) (pv 6) (fun _ _ => rfl)) (pa_cons (pe_ix (zix_list (K := K) rfl) (pe_ix (zix_list (K := K) rfl) (pv 2) (pv 5) (fun _ _ => rfl)) (pv 6) (fun _ _ => rfl)) (pa_nil)))))) (pss_nil)) (pss_nil)) (pss_nil))) (pss_cons (ps_asg (pe_op op_add (pe_ix (zix_tup (K := K) rfl) (pe_ix (zix_list (K := K) rfl) (pv 1) (pv 3) (fun _ _ => rfl)) pe_int (fun _ _ => rfl)) (pe_int)) (pg_sub (pv 4) (pe_ix (zix_tup (K := K) rfl) (pe_ix (zix_list (K := K) rfl) (pv 1) (pv 3) (fun _ _ => rfl)) pe_int (fun _ _ => rfl)) set_list)) (pss_cons (ps_expr (pe_bm PySem.F.plainAttrs_list PySem.F.slot_list_append PySem.F.type_list_append mt_append (pv 2) (pa_cons (pv 4) pa_nil))) (pss_nil)))))) (pss_cons (ps_ret (pv 2)) (pss_nil))), ?_⟩
    unfold m_law_table at hw
    refine q_setF (K := K) (fun v => [some v0_, some v1_, some v, none, none, none, none]) z hw (ef_lst (en_nil rfl)) (fun _ => rfl) (fun x7 p9 ws8 H1 Ho2 e3 z4 d5 hw => ?_)
    replace d1_ := LV.mo d1_ e3
    replace d0_ := LV.mo d0_ e3
    have es10 := (Same.refl _).trans e3
    refine q_forL (K := K) (src_R1 z4 hw (ev_c1 c_lenZ (ev_lp 1 d0_ rfl rfl rfl) rfl)) (fun (s : (List (List Int))) (σ : L2.St) (H Ho : Hp) => ∃ (ws_table_ : List V) (y_j_ : Option V) (y_row_ : Option V) (y_i_ : Option V), σ = [some v0_, some v1_, some (V.ref p9), y_j_, y_row_, y_i_, none] ∧ Zs ((p9, HO.lst ws_table_) :: rs) H Ho ∧ DL K Ho ws_table_ s) (fun xs11 H12 Ho13 e14 ⟨z15, hw⟩ => ⟨_, hw, _, _, _, _, rfl, z15, (DL.mo d5 e14)⟩) ?_ ?_ ?_ ?_
    · intro s18 σ19 H20 Ho21 hI22
      obtain ⟨ws25, y27, y28, y29, rfl, z23, d26⟩ := hI22
      exact ⟨_, z23, (fun _ m => by cases m)⟩
    · intro s30 σ31 H32 Ho33 H34 Ho35 hI36 e37 t38
      obtain ⟨ws41, y43, y44, y45, rfl, z39, d42⟩ := hI36
      exact ⟨_, _, _, _, rfl, t38 _ z39, (DL.mo d42 e37)⟩
    · intro a46 x47 s48 σ49 H50 Ho51 N52 e54 hI55 d56 hw
      obtain ⟨ws59, y61, y62, y63, rfl, z57, d60⟩ := hI55
      replace d1_ := LV.mo d1_ e54
      replace d0_ := LV.mo d0_ e54
      have es64 := es10.trans e54
      have pr65 := (Same.refl Ho).trans es64
      unfold m_law_table_L1 at hw
      try dsimp only at hw
      obtain rfl := d_int d56
      refine gt_name (σ' := [some v0_, some v1_, some (V.ref p9), some (V.int a46), y62, y63, none]) rfl ?_
      refine q_setF (K := K) (fun v => [some v0_, some v1_, some (V.ref p9), some (V.int a46), some v, y63, none]) z57 hw (ef_rep (ef_lst (en_cons (ev_int rfl) (en_nil rfl) rfl)) (fun _ => ev_int rfl) rfl) (fun _ => rfl) (fun x72 p74 ws73 H66 Ho67 e68 z69 d70 hw => ?_)
      replace d1_ := LV.mo d1_ e68
      replace d60 := DL.mo d60 e68
      replace d0_ := LV.mo d0_ e68
      have es75 := (Same.refl _).trans e68
      refine q_forL (K := K) (src_R1 z69 hw (ev_i rfl rfl)) (fun (s : (List Int)) (σ : L2.St) (H Ho : Hp) => ∃ (p_row_ : Addr) (ws_row_ : List V) (y_i_ : Option V), σ = [some v0_, some v1_, some (V.ref p9), some (V.int a46), some (V.ref p_row_), y_i_, none] ∧ Zs ((p_row_, HO.lst ws_row_) :: (p9, HO.lst ws59) :: rs) H Ho ∧ DL K Ho ws_row_ s) (fun xs76 H77 Ho78 e79 ⟨z80, hw⟩ => ⟨_, hw, _, _, _, rfl, z80, (DL.mo d70 e79)⟩) ?_ ?_ ?_ ?_
      · intro s83 σ84 H85 Ho86 hI87
        obtain ⟨p92, ws90, y93, rfl, z88, d91⟩ := hI87
        exact ⟨_, z88, (fun _ m => by cases m)⟩
      · intro s94 σ95 H96 Ho97 H98 Ho99 hI100 e101 t102
        obtain ⟨p107, ws105, y108, rfl, z103, d106⟩ := hI100
        exact ⟨_, _, _, rfl, t102 _ z103, (DL.mo d106 e101)⟩
      · intro a109 x110 s111 σ112 H113 Ho114 N115 e117 hI118 d119 hw
        obtain ⟨p124, ws122, y125, rfl, z120, d123⟩ := hI118
        replace d1_ := LV.mo d1_ e117
        replace d60 := DL.mo d60 e117
        replace d0_ := LV.mo d0_ e117
        have es126 := es75.trans e117
        have pr127 := pr65.trans es126
        unfold m_law_table_L2 at hw
        try dsimp only at hw
        obtain rfl := d_int d119
        refine gt_name (σ' := [some v0_, some v1_, some (V.ref p9), some (V.int a46), some (V.ref p124), some (V.int a109), none]) rfl ?_
        refine q_ifJ z120 hw (fun (s : (List Int)) (σ : L2.St) (H Ho : Hp) => ∃ (p_row_ : Addr) (ws_row_ : List V), σ = [some v0_, some v1_, some (V.ref p9), some (V.int a46), some (V.ref p_row_), some (V.int a109), none] ∧ Zs ((p_row_, HO.lst ws_row_) :: (p9, HO.lst ws59) :: rs) H Ho ∧ DL K Ho ws_row_ s) (et_of (K := K) (ev_call2 (ev_op v_ixL (ev_lp 2 d0_ rfl rfl rfl) (ev_i rfl rfl) rfl) (ev_op v_ixL (ev_lp 2 d0_ rfl rfl rfl) (ev_i rfl rfl) rfl) rfl)) (fun H131 Ho132 N186 e133 z134 hw => ?_) (fun H131 Ho132 N186 e133 z134 hw => ?_) ?_
        · replace d1_ := LV.mo d1_ e133
          replace d123 := DL.mo d123 e133
          replace d60 := DL.mo d60 e133
          replace d0_ := LV.mo d0_ e133
          have es162 := (Same.refl _).trans e133
          have pr161 := pr127.trans es162
          refine q_setF (K := K) (fun v => [some v0_, some v1_, some (V.ref p9), some (V.int a46), some v, some (V.int a109), none]) z134 hw (ef_lc (sx_R1 (ev_int rfl) rfl) (fun _ m => by cases m) (fun _ v172 _ _ _ e163 z166 d168 _ k165 => k165 [some v0_, some v1_, some (V.ref p9), some (V.int a46), some (V.ref p124), some (V.int a109), some v172] rfl (et_yes rfl) (ev_c2 c_max2 (ev_op v_ixL (ev_rt (n := 1) (DL.mo d123 e163) rfl rfl rfl) (ev_var d168 rfl rfl) rfl) (ev_op v_ixL (ev_DL (ev_op v_ixL (ev_rt (n := 2) (DL.mo d60 e163) rfl rfl rfl) (ev_i rfl rfl) rfl)) (ev_var d168 rfl rfl) rfl) rfl)) rfl) (fun _ => rfl) (fun x180 p182 ws181 H174 Ho175 e176 z177 d178 hw => ?_)
          replace d1_ := LV.mo d1_ e176
          replace d123 := DL.mo d123 e176
          replace d60 := DL.mo d60 e176
          replace d0_ := LV.mo d0_ e176
          have es183 := (Same.refl _).trans e176
          replace z177 := (z177.sub (List.Sublist.cons₂ _ (List.Sublist.cons _ (List.Sublist.cons₂ _ (List.Sublist.refl _))))).ins 0
          replace z177 : Zs ((p182, HO.lst ws181) :: (p9, HO.lst ws59) :: rs) H174 Ho175 := z177
          exact run_ret hw _ _ _ es183 ⟨_, _, rfl, z177, d178⟩
        · replace d1_ := LV.mo d1_ e133
          replace d123 := DL.mo d123 e133
          replace d60 := DL.mo d60 e133
          replace d0_ := LV.mo d0_ e133
          have es185 := (Same.refl _).trans e133
          have pr184 := pr127.trans es185
          exact run_ret hw _ _ _ (Same.refl _) ⟨_, _, rfl, z134, d123⟩
        · intro s187 σ188 H189 Ho190 e191 hI192 hw
          obtain ⟨p197, ws195, rfl, z193, d196⟩ := hI192
          replace d1_ := LV.mo d1_ e191
          replace d60 := DL.mo d60 e191
          replace d0_ := LV.mo d0_ e191
          have es198 := (Same.refl _).trans e191
          exact run_ret hw _ _ _ es198 ⟨_, _, _, rfl, z193, d196⟩
      · intro s199 σ200 H201 Ho202 e203 hI204 hw
        obtain ⟨p209, ws207, y210, rfl, z205, d208⟩ := hI204
        replace d1_ := LV.mo d1_ e203
        replace d60 := DL.mo d60 e203
        replace d0_ := LV.mo d0_ e203
        have es211 := es75.trans e203
        refine q_sti (n := 0) z205 d208 rfl hw (ev_op v_add (ev_ixT 1 (f := fun x => x.2) (ev_op v_ixL (ev_lp 2 d1_ rfl rfl rfl) (ev_i rfl rfl) rfl) (fun _ => ⟨_, rfl, rfl⟩) rfl) (ev_int rfl) rfl) rfl (ev_ixT 0 (f := fun x => x.1) (ev_op v_ixL (ev_lp 2 d1_ rfl rfl rfl) (ev_i rfl rfl) rfl) (fun _ => ⟨_, rfl, rfl⟩) rfl) (fun _ ws218 H214 Ho215 e216 z217 d219 hw => ?_)
        replace z217 : Zs ((p209, HO.lst ws218) :: (p9, HO.lst ws59) :: rs) H214 Ho215 := z217
        replace d1_ := LV.mo d1_ e216
        replace d60 := DL.mo d60 e216
        replace d0_ := LV.mo d0_ e216
        have es222 := es211.trans e216
        obtain ⟨Ho223, e224, z225, d226⟩ := frzN 0 z217 rfl d219
        replace d1_ := LV.mo d1_ e224
        replace d60 := DL.mo d60 e224
        replace d0_ := LV.mo d0_ e224
        have es227 := es222.trans e224
        replace z225 : Zs ((p9, HO.lst ws59) :: rs) H214 Ho223 := z225
        refine q_app (n := 0) z225 d60 rfl hw (ev_var d226 rfl rfl) rfl (fun _ ws232 H228 Ho229 e230 z231 d233 hw => ?_)
        replace z231 : Zs ((p9, HO.lst ws232) :: rs) H228 Ho229 := z231
        replace d1_ := LV.mo d1_ e230
        replace d226 := Z.D.mo d226 e230
        replace d0_ := LV.mo d0_ e230
        have es234 := es227.trans e230
        exact run_ret hw _ _ _ es234 ⟨_, _, _, _, rfl, z231, d233⟩
    · intro s237 σ238 H239 Ho240 e241 hI242 hw
      obtain ⟨ws245, y247, y248, y249, rfl, z243, d246⟩ := hI242
      have es250 := es10.trans e241
      refine q_retv rfl ?_
      exact (run_ret hw) _ _ _ _ ((Same.refl Ho).trans es250) (z243.sub (List.Sublist.cons₂ _ (List.Sublist.refl _))) d246
abbrev s_law_notes : Stmt := topS 16
theorem sc_law_notes : FnScope ["web", "calls", "table", "pairs", "j", "firsts", "i", "hand", "k", "between", "x"] ["web", "calls", "table"] (defScope s_law_notes) := ⟨rfl, rfl, rfl, by decide +kernel, rfl, by decide +kernel, by decide +kernel⟩
theorem ok_law_notes {f : Addr} {fd : FuncData} (F : Fun K "_law_notes" "_law_notes" s_law_notes f fd) {f_law_step : Addr} {fd_law_step : FuncData} (c_law_step : Cal P w K mg base CX0 "_law_step" ["one", "other"] 2 (Sp2 (PD K) (PD K) (PD K) m_law_step) f_law_step fd_law_step) (m_len : mg "len" = none) (m_range : mg "range" = none) :
    FnOk P w K mg base CX0 3 f fd ["web", "calls", "table"] (Sf3 K (PL K) (PL K) (PL K) m_law_notes) := by
  refine F.ok sc_law_notes (fun vs H Q E h => ?_) (fun cdv A outer s H vs Q E hr h => ?_)
  · obtain ⟨rs, Ho, v0_, x0_, v1_, x1_, v2_, x2_, rfl, _⟩ := h
    rfl
  · obtain ⟨rs, Ho, v0_, x0_, v1_, x1_, v2_, x2_, rfl, z, d0_, d1_, d2_, hw⟩ := h
    refine ⟨_, pss_cons (ps_set (i := 3) sc_law_notes.nd rfl (Or.inl rfl) (pe_lst (pa_nil))) (pss_cons (ps_for PassesOwn.never rfl (pi_range1 (by rfl) m_range (pa_cons (pe_callB (zlen (K := K) rfl) (by rfl) m_len (by decide +kernel) (pa_cons (pv 0) (pa_nil))) (pa_nil))) (pg_name (i := 4) sc_law_notes.nd rfl (Or.inr rfl)) (pss_cons (ps_setLc (i := 5) (own := [("i", 6)]) rfl sc_law_notes.nd rfl rfl (sw_true rfl rfl rfl (by decide +kernel)) (pi_range1 (by rfl) m_range (pa_cons (pv 4) (pa_nil))) (blkOk_by (N := ["web", "calls", "table", "pairs", "j", "firsts", "i", "hand", "k", "between", "x"]) (sc := defScope s_law_notes) (by decide +kernel)) (fun _ _ _ _ _ => pg_name (i := 6) sc_law_notes.nd rfl (Or.inl rfl)) (fun _ _ _ _ _ => pts_one (pt_val (pe_call c_law_step.ok (hr.mono (by decide)) (by rfl) c_law_step.g c_law_step.kp c_law_step.b .nil pass0 (pa_cons (pe_ix (zix_list (K := K) rfl) (pv 0) (pv 6) (fun _ _ => rfl)) (pa_cons (pe_ix (zix_list (K := K) rfl) (pv 0) (pv 4) (fun _ _ => rfl)) (pa_nil)))))) (fun _ _ _ _ _ => pv 6)) (pss_cons (ps_for PassesOwn.never rfl (zpi_list (K := K) rfl (pv 5)) (pg_name (i := 6) sc_law_notes.nd rfl (Or.inr rfl)) (pss_cons (ps_asg (pe_ix (zix_list (K := K) rfl) (pv 1) (pv 6) (fun _ _ => rfl)) (zpg_tup (K := K) (n := 2) rfl rfl (pgs_cons (pg_name (i := 7) sc_law_notes.nd rfl (Or.inr rfl)) (pgs_cons (pg_name (i := 8) sc_law_notes.nd rfl (Or.inr rfl)) (pgs_nil))))) (pss_cons (ps_setLc (i := 9) (own := [("x", 10)]) rfl sc_law_notes.nd rfl rfl (sw_true rfl rfl rfl (by decide +kernel)) (zpi_list (K := K) rfl (pv 5)) (blkOk_by (N := ["web", "calls", "table", "pairs", "j", "firsts", "i", "hand", "k", "between", "x"]) (sc := defScope s_law_notes) (by decide +kernel)) (fun _ _ _ _ _ => pg_name (i := 10) sc_law_notes.nd rfl (Or.inl rfl)) (fun _ _ _ _ _ => pts_one (PW.pt (pw_and (pt_cmpR (op_gt) (pv 10) (pv 6) (nomark _)) (pw_and1 (pt_cmpR (op_lt) (pv 8) (pe_ix (zix_list (K := K) rfl) (pe_ix (zix_list (K := K) rfl) (pv 2) (pv 10) (fun _ _ => rfl)) (pv 7) (fun _ _ => rfl)) (nomark _)))))) (fun _ _ _ _ _ => pv 10)) (pss_cons (ps_if (PW.pt (pw_and (pt_cmpR (op_ne) (pv 7) (pe_ix (zix_tup (K := K) rfl) (pe_ix (zix_list (K := K) rfl) (pv 0) (pv 4) (fun _ _ => rfl)) pe_int (fun _ _ => rfl)) (nomark _)) (pw_and1 (pt_cmpR (zop_eqD (K := K) rfl hr.units) (pv 9) (pe_lst (pa_nil)) (nomark _))))) (pss_cons (ps_expr (pe_bm PySem.F.plainAttrs_list PySem.F.slot_list_append PySem.F.type_list_append mt_append (pv 3) (pa_cons (pe_tup (pa_cons (pv 6) (pa_cons (pv 4) (pa_nil)))) pa_nil))) (pss_nil)) (pss_nil)) (pss_nil))))) (pss_nil)))) (pss_cons (ps_ret (pv 3)) (pss_nil))), ?_⟩
    unfold m_law_notes at hw
    refine q_setF (K := K) (fun v => [some v0_, some v1_, some v2_, some v, none, none, none, none, none, none, none]) z hw (ef_lst (en_nil rfl)) (fun _ => rfl) (fun x7 p9 ws8 H1 Ho2 e3 z4 d5 hw => ?_)
    replace d1_ := LV.mo d1_ e3
    replace d2_ := LV.mo d2_ e3
    replace d0_ := LV.mo d0_ e3
    have es10 := (Same.refl _).trans e3
    refine q_forL (K := K) (src_R1 z4 hw (ev_c1 c_lenZ (ev_lp 1 d0_ rfl rfl rfl) rfl)) (fun (s : (List (Int × Int))) (σ : L2.St) (H Ho : Hp) => ∃ (ws_pairs_ : List V) (y_j_ : Option V) (y_firsts_ : Option V) (y_i_ : Option V) (y_hand_ : Option V) (y_k_ : Option V) (y_between_ : Option V), σ = [some v0_, some v1_, some v2_, some (V.ref p9), y_j_, y_firsts_, y_i_, y_hand_, y_k_, y_between_, none] ∧ Zs ((p9, HO.lst ws_pairs_) :: rs) H Ho ∧ DL K Ho ws_pairs_ s) (fun xs11 H12 Ho13 e14 ⟨z15, hw⟩ => ⟨_, hw, _, _, _, _, _, _, _, rfl, z15, (DL.mo d5 e14)⟩) ?_ ?_ ?_ ?_
    · intro s18 σ19 H20 Ho21 hI22
      obtain ⟨ws25, y27, y28, y29, y30, y31, y32, rfl, z23, d26⟩ := hI22
      exact ⟨_, z23, (fun _ m => by cases m)⟩
    · intro s33 σ34 H35 Ho36 H37 Ho38 hI39 e40 t41
      obtain ⟨ws44, y46, y47, y48, y49, y50, y51, rfl, z42, d45⟩ := hI39
      exact ⟨_, _, _, _, _, _, _, rfl, t41 _ z42, (DL.mo d45 e40)⟩
    · intro a52 x53 s54 σ55 H56 Ho57 N58 e60 hI61 d62 hw
      obtain ⟨ws65, y67, y68, y69, y70, y71, y72, rfl, z63, d66⟩ := hI61
      replace d1_ := LV.mo d1_ e60
      replace d2_ := LV.mo d2_ e60
      replace d0_ := LV.mo d0_ e60
      have es73 := es10.trans e60
      have pr74 := (Same.refl Ho).trans es73
      unfold m_law_notes_L1 at hw
      try dsimp only at hw
      obtain rfl := d_int d62
      refine gt_name (σ' := [some v0_, some v1_, some v2_, some (V.ref p9), some (V.int a52), y68, y69, y70, y71, y72, none]) rfl ?_
      refine q_set (P := PD K) (fun v => [some v0_, some v1_, some v2_, some (V.ref p9), some (V.int a52), some v, y69, y70, y71, y72, none]) z63 hw (ef_D (ef_lc (sx_R1 (ev_i rfl rfl) rfl) (fun _ m => by cases m) (fun _ v84 _ _ _ e75 z78 d80 _ k77 => k77 [some v0_, some v1_, some v2_, some (V.ref p9), some (V.int a52), y68, some v84, y70, y71, y72, none] rfl (et_of (K := K) (ev_call2 (ev_op v_ixL (ev_lp 2 (LV.mo d0_ e75) rfl rfl rfl) (ev_var d80 rfl rfl) rfl) (ev_op v_ixL (ev_lp 2 (LV.mo d0_ e75) rfl rfl rfl) (ev_i rfl rfl) rfl) rfl)) (ev_var d80 rfl rfl)) rfl)) (fun _ => rfl) (fun x92 v91 H86 Ho87 e88 z89 d90 hw => ?_)
      replace d1_ := LV.mo d1_ e88
      replace d66 := DL.mo d66 e88
      replace d2_ := LV.mo d2_ e88
      replace d0_ := LV.mo d0_ e88
      have es95 := (Same.refl _).trans e88
      refine q_forL (K := K) (src_D z89 hw (ev_var d90 rfl rfl)) (fun (s : (List (Int × Int))) (σ : L2.St) (H Ho : Hp) => ∃ (ws_pairs_ : List V) (y_i_ : Option V) (y_hand_ : Option V) (y_k_ : Option V) (y_between_ : Option V), σ = [some v0_, some v1_, some v2_, some (V.ref p9), some (V.int a52), some v91, y_i_, y_hand_, y_k_, y_between_, none] ∧ Zs ((p9, HO.lst ws_pairs_) :: rs) H Ho ∧ DL K Ho ws_pairs_ s) (fun xs96 H97 Ho98 e99 ⟨z100, hw⟩ => ⟨_, hw, _, _, _, _, _, rfl, z100, (DL.mo d66 e99)⟩) ?_ ?_ ?_ ?_
      · intro s103 σ104 H105 Ho106 hI107
        obtain ⟨ws110, y112, y113, y114, y115, rfl, z108, d111⟩ := hI107
        exact ⟨_, z108, (fun _ m => by cases m)⟩
      · intro s116 σ117 H118 Ho119 H120 Ho121 hI122 e123 t124
        obtain ⟨ws127, y129, y130, y131, y132, rfl, z125, d128⟩ := hI122
        exact ⟨_, _, _, _, _, rfl, t124 _ z125, (DL.mo d128 e123)⟩
      · intro a133 x134 s135 σ136 H137 Ho138 N139 e141 hI142 d143 hw
        obtain ⟨ws146, y148, y149, y150, y151, rfl, z144, d147⟩ := hI142
        replace d1_ := LV.mo d1_ e141
        replace d90 := Z.D.mo d90 e141
        replace d2_ := LV.mo d2_ e141
        replace d0_ := LV.mo d0_ e141
        have es152 := es95.trans e141
        have pr153 := pr74.trans es152
        unfold m_law_notes_L2 at hw
        try dsimp only at hw
        obtain rfl := d_int d143
        refine gt_name (σ' := [some v0_, some v1_, some v2_, some (V.ref p9), some (V.int a52), some v91, some (V.int a133), y149, y150, y151, none]) rfl ?_
        refine q_un z144 hw (ev_op v_ixL (ev_lp 1 d1_ rfl rfl rfl) (ev_i rfl rfl) rfl) (fun t160 v161 H155 Ho156 e157 z158 d159 hw => gt_t2 d159 z158 (fun v162 v163 d164 d165 => ?_))
        replace hw := run_bret (run_bret (hw))
        replace d1_ := LV.mo d1_ e157
        replace d90 := Z.D.mo d90 e157
        replace d147 := DL.mo d147 e157
        replace d2_ := LV.mo d2_ e157
        replace d0_ := LV.mo d0_ e157
        have es166 := (Same.refl _).trans e157
        obtain rfl := d_int d164
        obtain rfl := d_int d165
        refine q_set (P := PD K) (fun v => [some v0_, some v1_, some v2_, some (V.ref p9), some (V.int a52), some v91, some (V.int a133), some (V.int t160.1), some (V.int t160.2), some v, none]) z158 hw (ef_D (ef_lc (sx_D (ev_var d90 rfl rfl)) (fun _ m => by cases m) (fun _ v176 _ _ _ e167 z170 d172 _ k169 => k169 [some v0_, some v1_, some v2_, some (V.ref p9), some (V.int a52), some v91, some (V.int a133), some (V.int t160.1), some (V.int t160.2), y151, some v176] rfl (et_and (et_of (K := K) (ev_op v_gt (ev_var d172 rfl rfl) (ev_i rfl rfl) rfl)) (et_of (K := K) (ev_op v_lt (ev_i rfl rfl) (ev_op v_ixL (ev_DL (ev_op v_ixL (ev_lp 2 (LV.mo d2_ e167) rfl rfl rfl) (ev_var d172 rfl rfl) rfl)) (ev_i rfl rfl) rfl) rfl)) rfl) (ev_var d172 rfl rfl)) rfl)) (fun _ => rfl) (fun x184 v183 H178 Ho179 e180 z181 d182 hw => ?_)
        replace d1_ := LV.mo d1_ e180
        replace d90 := Z.D.mo d90 e180
        replace d147 := DL.mo d147 e180
        replace d2_ := LV.mo d2_ e180
        replace d0_ := LV.mo d0_ e180
        have es187 := es166.trans e180
        refine q_ifJ z181 hw (fun (s : (List (Int × Int))) (σ : L2.St) (H Ho : Hp) => ∃ (ws_pairs_ : List V), σ = [some v0_, some v1_, some v2_, some (V.ref p9), some (V.int a52), some v91, some (V.int a133), some (V.int t160.1), some (V.int t160.2), some v183, none] ∧ Zs ((p9, HO.lst ws_pairs_) :: rs) H Ho ∧ DL K Ho ws_pairs_ s) (et_and (et_of (K := K) (ev_op v_ne (ev_i rfl rfl) (ev_ixT 0 (f := fun x => x.a) (ev_op v_ixL (ev_lp 1 d0_ rfl rfl rfl) (ev_i rfl rfl) rfl) (fun _ => ⟨_, rfl, rfl⟩) rfl) rfl)) (et_of (K := K) (ev_op v_eqD (ev_DQ (ev_var d182 rfl rfl)) (ef_Q (ef_lst (en_nil rfl))) rfl)) rfl) (fun H190 Ho191 N219 e192 z193 hw => ?_) (fun H190 Ho191 N219 e192 z193 hw => ?_) ?_
        · replace d182 := Z.D.mo d182 e192
          replace d1_ := LV.mo d1_ e192
          replace d90 := Z.D.mo d90 e192
          replace d147 := DL.mo d147 e192
          replace d2_ := LV.mo d2_ e192
          replace d0_ := LV.mo d0_ e192
          have es208 := es187.trans e192
          have pr207 := pr153.trans es208
          refine q_app (n := 0) z193 d147 rfl hw (ev_t2 (ev_i rfl rfl) (ev_i rfl rfl) rfl) rfl (fun _ ws213 H209 Ho210 e211 z212 d214 hw => ?_)
          replace z212 : Zs ((p9, HO.lst ws213) :: rs) H209 Ho210 := z212
          replace d182 := Z.D.mo d182 e211
          replace d1_ := LV.mo d1_ e211
          replace d90 := Z.D.mo d90 e211
          replace d2_ := LV.mo d2_ e211
          replace d0_ := LV.mo d0_ e211
          have es215 := (Same.refl _).trans e211
          exact run_ret hw _ _ _ es215 ⟨_, rfl, z212, d214⟩
        · replace d182 := Z.D.mo d182 e192
          replace d1_ := LV.mo d1_ e192
          replace d90 := Z.D.mo d90 e192
          replace d147 := DL.mo d147 e192
          replace d2_ := LV.mo d2_ e192
          replace d0_ := LV.mo d0_ e192
          have es218 := es187.trans e192
          have pr217 := pr153.trans es218
          exact run_ret hw _ _ _ (Same.refl _) ⟨_, rfl, z193, d147⟩
        · intro s220 σ221 H222 Ho223 e224 hI225 hw
          obtain ⟨ws228, rfl, z226, d229⟩ := hI225
          replace d182 := Z.D.mo d182 e224
          replace d1_ := LV.mo d1_ e224
          replace d90 := Z.D.mo d90 e224
          replace d2_ := LV.mo d2_ e224
          replace d0_ := LV.mo d0_ e224
          have es230 := es187.trans e224
          exact run_ret hw _ _ _ es230 ⟨_, _, _, _, _, rfl, z226, d229⟩
      · intro s231 σ232 H233 Ho234 e235 hI236 hw
        obtain ⟨ws239, y241, y242, y243, y244, rfl, z237, d240⟩ := hI236
        replace d1_ := LV.mo d1_ e235
        replace d90 := Z.D.mo d90 e235
        replace d2_ := LV.mo d2_ e235
        replace d0_ := LV.mo d0_ e235
        have es245 := es95.trans e235
        exact run_ret hw _ _ _ es245 ⟨_, _, _, _, _, _, _, rfl, z237, d240⟩
    · intro s247 σ248 H249 Ho250 e251 hI252 hw
      obtain ⟨ws255, y257, y258, y259, y260, y261, y262, rfl, z253, d256⟩ := hI252
      have es263 := es10.trans e251
      refine q_retv rfl ?_
      exact (run_ret hw) _ _ _ _ ((Same.refl Ho).trans es263) (z253.sub (List.Sublist.cons₂ _ (List.Sublist.refl _))) d256
abbrev s_law_named : Stmt := topS 17
theorem sc_law_named : FnScope ["calls", "pairs", "i", "j"] ["calls", "pairs"] (defScope s_law_named) := ⟨rfl, rfl, rfl, by decide +kernel, rfl, by decide +kernel, by decide +kernel⟩
theorem ok_law_named {f : Addr} {fd : FuncData} (F : Fun K "_law_named" "_law_named" s_law_named f fd) (m_sorted : mg "sorted" = none) :
    FnOk P w K mg base CX0 1 f fd ["calls", "pairs"] (Sf2 K (PL K) (PL K) m_law_named) := by
  refine F.ok sc_law_named (fun vs H Q E h => ?_) (fun cdv A outer s H vs Q E hr h => ?_)
  · obtain ⟨rs, Ho, v0_, x0_, v1_, x1_, rfl, _⟩ := h
    rfl
  · obtain ⟨rs, Ho, v0_, x0_, v1_, x1_, rfl, z, d0_, d1_, hw⟩ := h
    refine ⟨_, pss_cons (ps_ret (pe_callB (zsorted (K := K) (d := 4) rfl (by decide)) (by rfl) m_sorted (by decide +kernel) (pa_cons (pe_lc (own := [("i", 2), ("j", 3)]) rfl sc_law_named.nd (zpi_list (K := K) rfl (pv 1)) (blkOk_by (N := ["calls", "pairs", "i", "j"]) (sc := defScope s_law_named) (by decide +kernel)) (fun _ _ _ _ _ => zpg_tup (K := K) (n := 2) rfl rfl (pgs_cons (pg_name (i := 2) sc_law_named.nd rfl (Or.inl rfl)) (pgs_cons (pg_name (i := 3) sc_law_named.nd rfl (Or.inl rfl)) (pgs_nil)))) (fun _ _ _ _ _ => pts_nil) (fun _ _ _ _ _ => pe_op (zop_catT (K := K) rfl) (pe_ix (zix_list (K := K) rfl) (pv 0) (pv 2) (fun _ _ => rfl)) (pe_ix (zix_list (K := K) rfl) (pv 0) (pv 3) (fun _ _ => rfl)))) (pa_nil)))) (pss_nil), ?_⟩
    unfold m_law_named at hw
    exact q_retF (K := K) z hw (ef_c1 c_sortK (ef_L (ef_lc (sx_V d1_ rfl (subN 0 rfl) rfl) (subN 0 rfl) (fun _ _ _ _ _ e10 z13 d11 _ k12 => gt_t2 d11 z13 (fun v19 v20 d15 d16 => k12 [some v0_, some v1_, some v19, some v20] rfl (et_yes rfl) (ev_op v_cat22 (ev_op v_ixL (ev_lp 1 (LV.mo d0_ e10) rfl rfl rfl) (ev_var d15 rfl rfl) rfl) (ev_op v_ixL (ev_lp 1 (LV.mo d0_ e10) rfl rfl rfl) (ev_var d16 rfl rfl) rfl) rfl))) rfl)) rfl) (fun x7 p9 ws5 H1 Ho2 e3 z4 d6 hw => (run_ret hw) _ _ _ _ (((Same.refl Ho).trans (Same.refl _)).trans e3) (z4.sub (List.Sublist.cons₂ _ (List.Sublist.refl _))) d6)
abbrev s_law_whole : Stmt := topS 18
theorem sc_law_whole : FnScope ["found"] ["found"] (defScope s_law_whole) := ⟨rfl, rfl, rfl, by decide +kernel, rfl, by decide +kernel, by decide +kernel⟩
theorem ok_law_whole {f : Addr} {fd : FuncData} (F : Fun K "_law_whole" "_law_whole" s_law_whole f fd) (m_isinstance : mg "isinstance" = none) (m_int : mg "int" = none) (m_bool : mg "bool" = none) :
    FnOk P w K mg base CX0 1 f fd ["found"] (Sp1 (PD K) (PD K) m_law_whole) := by
  refine F.ok sc_law_whole (fun vs H Q E h => ?_) (fun cdv A outer s H vs Q E hr h => ?_)
  · obtain ⟨rs, Ho, v0_, x0_, rfl, _⟩ := h
    rfl
  · obtain ⟨rs, Ho, v0_, x0_, rfl, z, d0_, hw⟩ := h
    obtain rfl := d_int d0_
    refine ⟨_, pss_cons (ps_ret (pe_and (pe_callB (zisi (K := K) rfl) (by rfl) m_isinstance (by decide +kernel) (pa_cons (pv 0) (pa_cons (pe_bltn (v := .ty "int") (by rfl) m_int (by decide +kernel) rfl) pa_nil))) (pe_one (pe_not (pe_callB (zisi (K := K) rfl) (by rfl) m_isinstance (by decide +kernel) (pa_cons (pv 0) (pa_cons (pe_bltn (v := .ty "bool") (by rfl) m_bool (by decide +kernel) rfl) pa_nil))))))) (pss_nil), ?_⟩
    unfold m_law_whole at hw
    exact q_ret z hw (ev_andV (ev_isi (ev_DQ (ev_i rfl rfl)) (b := true) (by decide +kernel) rfl) (ev_notV (ev_isi (ev_DQ (ev_i rfl rfl)) (b := false) (by decide +kernel) rfl) rfl) rfl) (fun x7 v8 H1 Ho2 e3 z4 d6 hw => (run_ret hw) _ _ _ (((Same.refl Ho).trans (Same.refl _)).trans e3) (z4.sub (List.Sublist.refl _)) d6)
abbrev s_law_rows : Stmt := topS 19
theorem sc_law_rows : FnScope ["found", "due", "row", "number"] ["found", "due"] (defScope s_law_rows) := ⟨rfl, rfl, rfl, by decide +kernel, rfl, by decide +kernel, by decide +kernel⟩
theorem ok_law_rows {f : Addr} {fd : FuncData} (F : Fun K "_law_rows" "_law_rows" s_law_rows f fd) {f_law_whole : Addr} {fd_law_whole : FuncData} (c_law_whole : Cal P w K mg base CX0 "_law_whole" ["found"] 1 (Sp1 (PD K) (PD K) m_law_whole) f_law_whole fd_law_whole) (m_isinstance : mg "isinstance" = none) (m_list : mg "list" = none) (m_len : mg "len" = none) (m_tuple : mg "tuple" = none) (m_all : mg "all" = none) :
    FnOk P w K mg base CX0 2 f fd ["found", "due"] (Sp2 (PL K) (PL K) (PD K) m_law_rows) := by
  refine F.ok sc_law_rows (fun vs H Q E h => ?_) (fun cdv A outer s H vs Q E hr h => ?_)
  · obtain ⟨rs, Ho, v0_, x0_, v1_, x1_, rfl, _⟩ := h
    rfl
  · obtain ⟨rs, Ho, v0_, x0_, v1_, x1_, rfl, z, d0_, d1_, hw⟩ := h
    refine ⟨_, pss_cons (ps_if (PW.pt (pw_or (pt_not (pt_val (pe_callB (zisi (K := K) rfl) (by rfl) m_isinstance (by decide +kernel) (pa_cons (pv 0) (pa_cons (pe_bltn (v := .ty "list") (by rfl) m_list (by decide +kernel) rfl) pa_nil))))) (pw_or1 (pt_cmpR (op_ne) (pe_callB (zlen (K := K) rfl) (by rfl) m_len (by decide +kernel) (pa_cons (pv 0) (pa_nil))) (pe_callB (zlen (K := K) rfl) (by rfl) m_len (by decide +kernel) (pa_cons (pv 1) (pa_nil))) (nomark _))))) (pss_cons (ps_ret (pe_bl)) (pss_nil)) (pss_nil)) (pss_cons (ps_for PassesOwn.never rfl (zpi_list (K := K) rfl (pv 0)) (pg_name (i := 2) sc_law_rows.nd rfl (Or.inl rfl)) (pss_cons (ps_if (PW.pt (pw_or (pt_not (pt_val (pe_callB (zisi (K := K) rfl) (by rfl) m_isinstance (by decide +kernel) (pa_cons (pv 2) (pa_cons (pe_bltn (v := .ty "tuple") (by rfl) m_tuple (by decide +kernel) rfl) pa_nil))))) (pw_or1 (pt_not (pt_val (pe_callB (zall (K := K) rfl rfl) (by rfl) m_all (by decide +kernel) (pa_cons (pe_lc (own := [("number", 3)]) rfl sc_law_rows.nd (zpi_tup (K := K) rfl (pv 2)) (blkOk_by (N := ["found", "due", "row", "number"]) (sc := defScope s_law_rows) (by decide +kernel)) (fun _ _ _ _ _ => pg_name (i := 3) sc_law_rows.nd rfl (Or.inl rfl)) (fun _ _ _ _ _ => pts_nil) (fun _ _ _ _ _ => pe_call c_law_whole.ok (hr.mono (by decide)) (by rfl) c_law_whole.g c_law_whole.kp c_law_whole.b .nil pass0 (pa_cons (pv 3) (pa_nil)))) (pa_nil)))))))) (pss_cons (ps_ret (pe_bl)) (pss_nil)) (pss_nil)) (pss_nil))) (pss_cons (ps_ret (pe_cmpR (zop_eqD (K := K) rfl hr.units) (pv 0) (pv 1) (nomark _))) (pss_nil))), ?_⟩
    unfold m_law_rows at hw
    refine q_if z hw (et_or (et_not (et_of (K := K) (ev_isi (ev_LQ (ev_lp 0 d0_ rfl rfl rfl)) (b := true) (by decide +kernel) rfl)) rfl) (et_of (K := K) (ev_op v_ne (ev_c1 c_lenZ (ev_lp 0 d0_ rfl rfl rfl) rfl) (ev_c1 c_lenZ (ev_lp 0 d1_ rfl rfl rfl) rfl) rfl)) rfl) (fun H2 Ho3 e4 z5 hw => ?_) (fun H2 Ho3 e4 z5 hw => ?_)
    · replace d1_ := LV.mo d1_ e4
      replace d0_ := LV.mo d0_ e4
      have es9 := (Same.refl _).trans e4
      exact q_ret z5 hw (ev_bl rfl) (fun x16 v17 H10 Ho11 e12 z13 d15 hw => (run_ret hw) _ _ _ (((Same.refl Ho).trans es9).trans e12) (z13.sub (List.Sublist.refl _)) d15)
    · replace d1_ := LV.mo d1_ e4
      replace d0_ := LV.mo d0_ e4
      have es21 := (Same.refl _).trans e4
      refine q_nx ?_
      refine q_forCV z5 hw d0_ rfl (subN 0 rfl) (fun (s : Unit) (σ : L2.St) (H Ho : Hp) => ∃ (y_row_ : Option V), σ = [some v0_, some v1_, y_row_, none] ∧ Zs (rs) H Ho) ⟨_, rfl, z5⟩ ?_ ?_ ?_ ?_
      · intro s29 σ30 H31 Ho32 hI33
        obtain ⟨y35, rfl, z34⟩ := hI33
        exact ⟨_, z34, (subN 0 rfl)⟩
      · intro s36 σ37 H38 Ho39 H40 Ho41 hI42 e43 t44
        obtain ⟨y46, rfl, z45⟩ := hI42
        exact ⟨_, rfl, t44 _ z45⟩
      · intro a47 x48 s49 σ50 H51 Ho52 N53 B54 e55 hI56 d57 hw
        obtain ⟨y59, rfl, z58⟩ := hI56
        replace d1_ := LV.mo d1_ e55
        replace d0_ := LV.mo d0_ e55
        have es60 := es21.trans e55
        have pr61 := (Same.refl Ho).trans es60
        unfold m_law_rows_L1 at hw
        try dsimp only at hw
        refine gt_name (σ' := [some v0_, some v1_, some x48, none]) rfl ?_
        refine q_if z58 hw (et_or (et_not (et_of (K := K) (ev_isi (ev_DQ (ev_var d57 rfl rfl)) (b := true) (by decide +kernel) rfl)) rfl) (et_not (et_of (K := K) (ev_c1 c_all (ef_L (ef_lc (sx_T (fun x => [x.a, x.b, x.c, x.d]) (ev_var d57 rfl rfl) (fun _ => rfl) rfl) (fun _ m => by cases m) (fun _ v69 _ _ _ e62 z65 d67 _ k64 => k64 [some v0_, some v1_, some x48, some v69] rfl (et_yes rfl) (ev_call1 (ev_var d67 rfl rfl) rfl)) rfl)) rfl)) rfl) rfl) (fun H72 Ho73 e74 z75 hw => ?_) (fun H72 Ho73 e74 z75 hw => ?_)
        · replace d1_ := LV.mo d1_ e74
          replace d0_ := LV.mo d0_ e74
          replace d57 := Z.D.mo d57 e74
          have es79 := (Same.refl _).trans e74
          exact q_ret z75 hw (ev_bl rfl) (fun x86 v87 H80 Ho81 e82 z83 d85 hw => (ctl_rt (run_ret hw)) _ _ _ ((pr61.trans es79).trans e82) (z83.sub (List.Sublist.refl _)) d85)
        · replace d1_ := LV.mo d1_ e74
          replace d0_ := LV.mo d0_ e74
          replace d57 := Z.D.mo d57 e74
          have es91 := (Same.refl _).trans e74
          refine q_nx ?_
          exact ctl_nx (run_ret hw) _ _ _ es91 ⟨_, rfl, z75⟩
      · intro s92 σ93 H94 Ho95 e96 hI97 hw
        obtain ⟨y99, rfl, z98⟩ := hI97
        replace d1_ := LV.mo d1_ e96
        replace d0_ := LV.mo d0_ e96
        have es100 := es21.trans e96
        exact q_ret z98 hw (ev_op v_eqD (ev_LQ (ev_lp 0 d0_ rfl rfl rfl)) (ev_LQ (ev_lp 0 d1_ rfl rfl rfl)) rfl) (fun x107 v108 H101 Ho102 e103 z104 d106 hw => (run_ret hw) _ _ _ (((Same.refl Ho).trans es100).trans e103) (z104.sub (List.Sublist.refl _)) d106)
abbrev s_law : Stmt := topS 20
theorem sc_law : FnScope ["script", "spring", "web", "calls", "due", "handed", "found"] ["script"] (defScope s_law) := ⟨rfl, rfl, rfl, by decide +kernel, rfl, by decide +kernel, by decide +kernel⟩
theorem ok_law {f : Addr} {fd : FuncData} (F : Fun K "law" "law" s_law f fd) {f_law_spring : Addr} {fd_law_spring : FuncData} (c_law_spring : Cal P w K mg base CX0 "_law_spring" ["script"] 1 (Sf1 K (PL K) m_law_spring) f_law_spring fd_law_spring) {f_law_web : Addr} {fd_law_web : FuncData} (c_law_web : Cal P w K mg base CX0 "_law_web" ["spring", "most"] 2 (Smf2 K (PD K) m_law_web) f_law_web fd_law_web) {f_law_calls : Addr} {fd_law_calls : FuncData} (c_law_calls : Cal P w K mg base CX0 "_law_calls" ["web"] 1 (Sf1 K (PL K) m_law_calls) f_law_calls fd_law_calls) {f_law_named : Addr} {fd_law_named : FuncData} (c_law_named : Cal P w K mg base CX0 "_law_named" ["calls", "pairs"] 1 (Sf2 K (PL K) (PL K) m_law_named) f_law_named fd_law_named) {f_law_notes : Addr} {fd_law_notes : FuncData} (c_law_notes : Cal P w K mg base CX0 "_law_notes" ["web", "calls", "table"] 3 (Sf3 K (PL K) (PL K) (PL K) m_law_notes) f_law_notes fd_law_notes) {f_law_table : Addr} {fd_law_table : FuncData} (c_law_table : Cal P w K mg base CX0 "_law_table" ["web", "calls"] 3 (Sf2 K (PL K) (PL K) m_law_table) f_law_table fd_law_table) {f_notes : Addr} {fd_notes : FuncData} (c_notes : Cal P w K mg base CX0 "notes" ["web"] 4 (Sf1 K (PL K) m_notes) f_notes fd_notes) {f_law_rows : Addr} {fd_law_rows : FuncData} (c_law_rows : Cal P w K mg base CX0 "_law_rows" ["found", "due"] 2 (Sp2 (PL K) (PL K) (PD K) m_law_rows) f_law_rows fd_law_rows) (m_list : mg "list" = none) :
    FnOk P w K mg base CX0 5 f fd ["script"] (Sp1 (PL K) (PD K) m_law) := by
  refine F.ok sc_law (fun vs H Q E h => ?_) (fun cdv A outer s H vs Q E hr h => ?_)
  · obtain ⟨rs, Ho, v0_, x0_, rfl, _⟩ := h
    rfl
  · obtain ⟨rs, Ho, v0_, x0_, rfl, z, d0_, hw⟩ := h
    refine ⟨_, pss_cons (ps_set (i := 1) sc_law.nd rfl (Or.inl rfl) (pe_call c_law_spring.ok (hr.mono (by decide)) (by rfl) c_law_spring.g c_law_spring.kp c_law_spring.b .nil pass0 (pa_cons (pv 0) (pa_nil)))) (pss_cons (ps_set (i := 2) sc_law.nd rfl (Or.inl rfl) (pe_call c_law_web.ok (hr.mono (by decide)) (by rfl) c_law_web.g c_law_web.kp c_law_web.b .nil pass0 (pa_cons (pv 1) (pa_cons (pe_int) (pa_nil))))) (pss_cons (ps_set (i := 3) sc_law.nd rfl (Or.inl rfl) (pe_call c_law_calls.ok (hr.mono (by decide)) (by rfl) c_law_calls.g c_law_calls.kp c_law_calls.b .nil pass0 (pa_cons (pv 2) (pa_nil)))) (pss_cons (ps_set (i := 4) sc_law.nd rfl (Or.inl rfl) (pe_call c_law_named.ok (hr.mono (by decide)) (by rfl) c_law_named.g c_law_named.kp c_law_named.b .nil pass0 (pa_cons (pv 3) (pa_cons (pe_call c_law_notes.ok (hr.mono (by decide)) (by rfl) c_law_notes.g c_law_notes.kp c_law_notes.b .nil pass0 (pa_cons (pv 2) (pa_cons (pv 3) (pa_cons (pe_call c_law_table.ok (hr.mono (by decide)) (by rfl) c_law_table.g c_law_table.kp c_law_table.b .nil pass0 (pa_cons (pv 2) (pa_cons (pv 3) (pa_nil)))) (pa_nil))))) (pa_nil))))) (pss_cons (ps_set (i := 5) sc_law.nd rfl (Or.inl rfl) (pe_callTy (zlist (K := K) rfl) (by rfl) m_list (by decide +kernel) (pa_cons (pv 2) (pa_nil)))) (pss_cons (ps_set (i := 6) sc_law.nd rfl (Or.inl rfl) (pe_call c_notes.ok (hr.mono (by decide)) (by rfl) c_notes.g c_notes.kp c_notes.b .nil pass0 (pa_cons (pv 5) (pa_nil)))) (pss_cons (ps_if (PW.pt (pw_or (pt_not (pt_val (pe_call c_law_rows.ok (hr.mono (by decide)) (by rfl) c_law_rows.g c_law_rows.kp c_law_rows.b .nil pass0 (pa_cons (pv 6) (pa_cons (pv 4) (pa_nil)))))) (pw_or1 (pt_cmpR (zop_neD (K := K) rfl hr.units) (pv 5) (pv 2) (nomark _))))) (pss_cons (ps_ret (pe_bl)) (pss_nil)) (pss_nil)) (pss_cons (ps_expr (pe_bm PySem.F.plainAttrs_list PySem.F.slot_list_append PySem.F.type_list_append mt_append (pv 6) (pa_cons (pe_tup (pa_cons (pe_int) (pa_cons (pe_int) (pa_cons (pe_int) (pa_cons (pe_int) (pa_nil)))))) pa_nil))) (pss_cons (ps_ret (pe_call c_law_rows.ok (hr.mono (by decide)) (by rfl) c_law_rows.g c_law_rows.kp c_law_rows.b .nil pass0 (pa_cons (pe_call c_notes.ok (hr.mono (by decide)) (by rfl) c_notes.g c_notes.kp c_notes.b .nil pass0 (pa_cons (pv 5) (pa_nil))) (pa_cons (pv 4) (pa_nil))))) (pss_nil))))))))), ?_⟩
    unfold m_law at hw
    refine q_setF (K := K) (fun v => [some v0_, some v, none, none, none, none, none]) z hw (ef_call1 (ev_lp 0 d0_ rfl rfl rfl) rfl) (fun _ => rfl) (fun x8 p10 ws9 H2 Ho3 e4 z5 d6 hw => ?_)
    have es11 := (Same.refl _).trans e4
    refine q_setM (fun v => [some v0_, some (V.ref p10), some v, none, none, none, none]) z5 d6 hw (emf_D (emf_call2 rfl (em_of (fun _ => ev_int rfl) rfl) rfl)) (fun _ => rfl) (fun x20 _ v19 ws23 H14 Ho15 e16 z17 d24 d18 hw => ?_)
    have es25 := es11.trans e16
    refine q_set (P := PD K) (fun v => [some v0_, some (V.ref p10), some v19, some v, none, none, none]) z17 hw (ef_D (ef_call1 (ev_DL (ev_var d18 rfl rfl)) rfl)) (fun _ => rfl) (fun x33 v32 H27 Ho28 e29 z30 d31 hw => ?_)
    replace d24 := DL.mo d24 e29
    replace d18 := Z.D.mo d18 e29
    have es36 := es25.trans e29
    refine q_set (P := PD K) (fun v => [some v0_, some (V.ref p10), some v19, some v32, some v, none, none]) z30 hw (ef_D (ef_call2 (ev_DL (ev_var d31 rfl rfl)) (ef_L (ef_call3 (ev_DL (ev_var d18 rfl rfl)) (ev_DL (ev_var d31 rfl rfl)) (ef_L (ef_call2 (ev_DL (ev_var d18 rfl rfl)) (ev_DL (ev_var d31 rfl rfl)) rfl)) rfl)) rfl)) (fun _ => rfl) (fun x46 v45 H40 Ho41 e42 z43 d44 hw => ?_)
    replace d24 := DL.mo d24 e42
    replace d18 := Z.D.mo d18 e42
    have es49 := es36.trans e42
    refine q_set (P := PD K) (fun v => [some v0_, some (V.ref p10), some v19, some v32, some v45, some v, none]) z43 hw (ef_D (ef_c1 c_listZ (ev_DL (ev_var d18 rfl rfl)) rfl)) (fun _ => rfl) (fun x56 v55 H50 Ho51 e52 z53 d54 hw => ?_)
    replace d44 := Z.D.mo d44 e52
    replace d24 := DL.mo d24 e52
    replace d18 := Z.D.mo d18 e52
    have es59 := es49.trans e52
    refine q_setF (K := K) (fun v => [some v0_, some (V.ref p10), some v19, some v32, some v45, some v55, some v]) z53 hw (ef_call1 (ev_DL (ev_var d54 rfl rfl)) rfl) (fun _ => rfl) (fun x67 p69 ws68 H61 Ho62 e63 z64 d65 hw => ?_)
    replace d44 := Z.D.mo d44 e63
    replace d54 := Z.D.mo d54 e63
    replace d24 := DL.mo d24 e63
    replace d18 := Z.D.mo d18 e63
    have es70 := es59.trans e63
    replace z64 := z64.sw1
    refine q_if z64 hw (et_or (et_not (et_of (K := K) (ev_call2 (ev_rt (n := 1) d65 rfl rfl rfl) (ev_DL (ev_var d44 rfl rfl)) rfl)) rfl) (et_of (K := K) (ev_op v_neD (ev_DQ (ev_var d54 rfl rfl)) (ev_DQ (ev_var d18 rfl rfl)) rfl)) rfl) (fun H73 Ho74 e75 z76 hw => ?_) (fun H73 Ho74 e75 z76 hw => ?_)
    · replace d44 := Z.D.mo d44 e75
      replace d65 := DL.mo d65 e75
      replace d54 := Z.D.mo d54 e75
      replace d24 := DL.mo d24 e75
      have es80 := es70.trans e75
      exact q_ret z76 hw (ev_bl rfl) (fun x87 v88 H81 Ho82 e83 z84 d86 hw => (run_ret hw) _ _ _ (((Same.refl Ho).trans es80).trans e83) (z84.sub (List.Sublist.cons _ (List.Sublist.cons _ (List.Sublist.refl _)))) d86)
    · replace d44 := Z.D.mo d44 e75
      replace d65 := DL.mo d65 e75
      replace d54 := Z.D.mo d54 e75
      replace d24 := DL.mo d24 e75
      have es92 := es70.trans e75
      refine q_nx ?_
      refine q_app (n := 1) z76 d65 rfl hw (ev_t4 (ev_int rfl) (ev_int rfl) (ev_int rfl) (ev_int rfl) rfl) rfl (fun _ ws97 H93 Ho94 e95 z96 d98 hw => ?_)
      replace z96 : Zs ((p10, HO.lst ws23) :: (p69, HO.lst ws97) :: rs) H93 Ho94 := z96
      replace d44 := Z.D.mo d44 e95
      replace d54 := Z.D.mo d54 e95
      replace d24 := DL.mo d24 e95
      have es99 := es92.trans e95
      exact q_ret z96 hw (ev_call2 (ef_L (ef_call1 (ev_DL (ev_var d54 rfl rfl)) rfl)) (ev_DL (ev_var d44 rfl rfl)) rfl) (fun x107 v108 H101 Ho102 e103 z104 d106 hw => (run_ret hw) _ _ _ (((Same.refl Ho).trans es99).trans e103) (z104.sub (List.Sublist.cons _ (List.Sublist.cons _ (List.Sublist.refl _)))) d106)
end
def spLaw (K : PySem.W.Frag) : Sp := fun vs H Q _ => ∃ (a : Addr) (ns : List Int), vs = [.ref a] ∧ SqL K H a (ns.map V.int) ∧ ns.length ≤ 63 ∧ ∀ H', Q (.bl true) H'
theorem all_mk {l : PySem.W.OpenLaw} {w : World} {K : PySem.W.Frag} {h : Heap} {mg : Str → Option Value} {fa : Addr} (X : K.In h) (G : h.Ns mainGlobals mg) (hfa : mg "law" = some (.ref fa))
    {f1 : Addr} {od1 an1 : Option Addr} {sl1 : Array (Option Value)} {oc1 kV1 dc1 pm1 cd1 ct1 : Value}
    (a1 : PySem.W.nsIn K mainGlobals "names" = some (some (.ref f1)))
    (l1 : K.lookup f1 = some ⟨oc1, od1, .func (PySem.W.fnOf "names" "names" (defArgs s_names) (defBody s_names) (defScope s_names) .none kV1 dc1 pm1 an1 cd1 ct1), sl1⟩)
    (c1 : PySem.W.codeIn K cd1 "names" = true) (k1 : PySem.W.keepIn K (.ref f1) = true)
    {f2 : Addr} {od2 an2 : Option Addr} {sl2 : Array (Option Value)} {oc2 kV2 dc2 pm2 cd2 ct2 : Value}
    (a2 : PySem.W.nsIn K mainGlobals "touches_meet" = some (some (.ref f2)))
    (l2 : K.lookup f2 = some ⟨oc2, od2, .func (PySem.W.fnOf "touches_meet" "touches_meet" (defArgs s_touches_meet) (defBody s_touches_meet) (defScope s_touches_meet) .none kV2 dc2 pm2 an2 cd2 ct2), sl2⟩)
    (c2 : PySem.W.codeIn K cd2 "touches_meet" = true) (k2 : PySem.W.keepIn K (.ref f2) = true)
    {f3 : Addr} {od3 an3 : Option Addr} {sl3 : Array (Option Value)} {oc3 kV3 dc3 pm3 cd3 ct3 : Value}
    (a3 : PySem.W.nsIn K mainGlobals "is_step" = some (some (.ref f3)))
    (l3 : K.lookup f3 = some ⟨oc3, od3, .func (PySem.W.fnOf "is_step" "is_step" (defArgs s_is_step) (defBody s_is_step) (defScope s_is_step) .none kV3 dc3 pm3 an3 cd3 ct3), sl3⟩)
    (c3 : PySem.W.codeIn K cd3 "is_step" = true) (k3 : PySem.W.keepIn K (.ref f3) = true)
    {f4 : Addr} {od4 an4 : Option Addr} {sl4 : Array (Option Value)} {oc4 kV4 dc4 pm4 cd4 ct4 : Value}
    (a4 : PySem.W.nsIn K mainGlobals "looked_back" = some (some (.ref f4)))
    (l4 : K.lookup f4 = some ⟨oc4, od4, .func (PySem.W.fnOf "looked_back" "looked_back" (defArgs s_looked_back) (defBody s_looked_back) (defScope s_looked_back) .none kV4 dc4 pm4 an4 cd4 ct4), sl4⟩)
    (c4 : PySem.W.codeIn K cd4 "looked_back" = true) (k4 : PySem.W.keepIn K (.ref f4) = true)
    {f5 : Addr} {od5 an5 : Option Addr} {sl5 : Array (Option Value)} {oc5 kV5 dc5 pm5 cd5 ct5 : Value}
    (a5 : PySem.W.nsIn K mainGlobals "notes" = some (some (.ref f5)))
    (l5 : K.lookup f5 = some ⟨oc5, od5, .func (PySem.W.fnOf "notes" "notes" (defArgs s_notes) (defBody s_notes) (defScope s_notes) .none kV5 dc5 pm5 an5 cd5 ct5), sl5⟩)
    (c5 : PySem.W.codeIn K cd5 "notes" = true) (k5 : PySem.W.keepIn K (.ref f5) = true)
    {f6 : Addr} {od6 an6 : Option Addr} {sl6 : Array (Option Value)} {oc6 kV6 dc6 pm6 cd6 ct6 : Value}
    (a6 : PySem.W.nsIn K mainGlobals "_law_spring" = some (some (.ref f6)))
    (l6 : K.lookup f6 = some ⟨oc6, od6, .func (PySem.W.fnOf "_law_spring" "_law_spring" (defArgs s_law_spring) (defBody s_law_spring) (defScope s_law_spring) .none kV6 dc6 pm6 an6 cd6 ct6), sl6⟩)
    (c6 : PySem.W.codeIn K cd6 "_law_spring" = true) (k6 : PySem.W.keepIn K (.ref f6) = true)
    {f7 : Addr} {od7 an7 : Option Addr} {sl7 : Array (Option Value)} {oc7 kV7 dc7 pm7 cd7 ct7 : Value}
    (a7 : PySem.W.nsIn K mainGlobals "_law_draw" = some (some (.ref f7)))
    (l7 : K.lookup f7 = some ⟨oc7, od7, .func (PySem.W.fnOf "_law_draw" "_law_draw" (defArgs s_law_draw) (defBody s_law_draw) (defScope s_law_draw) .none kV7 dc7 pm7 an7 cd7 ct7), sl7⟩)
    (c7 : PySem.W.codeIn K cd7 "_law_draw" = true) (k7 : PySem.W.keepIn K (.ref f7) = true)
    {f8 : Addr} {od8 an8 : Option Addr} {sl8 : Array (Option Value)} {oc8 kV8 dc8 pm8 cd8 ct8 : Value}
    (a8 : PySem.W.nsIn K mainGlobals "_law_web" = some (some (.ref f8)))
    (l8 : K.lookup f8 = some ⟨oc8, od8, .func (PySem.W.fnOf "_law_web" "_law_web" (defArgs s_law_web) (defBody s_law_web) (defScope s_law_web) .none kV8 dc8 pm8 an8 cd8 ct8), sl8⟩)
    (c8 : PySem.W.codeIn K cd8 "_law_web" = true) (k8 : PySem.W.keepIn K (.ref f8) = true)
    {f9 : Addr} {od9 an9 : Option Addr} {sl9 : Array (Option Value)} {oc9 kV9 dc9 pm9 cd9 ct9 : Value}
    (a9 : PySem.W.nsIn K mainGlobals "_law_calls" = some (some (.ref f9)))
    (l9 : K.lookup f9 = some ⟨oc9, od9, .func (PySem.W.fnOf "_law_calls" "_law_calls" (defArgs s_law_calls) (defBody s_law_calls) (defScope s_law_calls) .none kV9 dc9 pm9 an9 cd9 ct9), sl9⟩)
    (c9 : PySem.W.codeIn K cd9 "_law_calls" = true) (k9 : PySem.W.keepIn K (.ref f9) = true)
    {f10 : Addr} {od10 an10 : Option Addr} {sl10 : Array (Option Value)} {oc10 kV10 dc10 pm10 cd10 ct10 : Value}
    (a10 : PySem.W.nsIn K mainGlobals "_law_meets" = some (some (.ref f10)))
    (l10 : K.lookup f10 = some ⟨oc10, od10, .func (PySem.W.fnOf "_law_meets" "_law_meets" (defArgs s_law_meets) (defBody s_law_meets) (defScope s_law_meets) .none kV10 dc10 pm10 an10 cd10 ct10), sl10⟩)
    (c10 : PySem.W.codeIn K cd10 "_law_meets" = true) (k10 : PySem.W.keepIn K (.ref f10) = true)
    {f11 : Addr} {od11 an11 : Option Addr} {sl11 : Array (Option Value)} {oc11 kV11 dc11 pm11 cd11 ct11 : Value}
    (a11 : PySem.W.nsIn K mainGlobals "_law_step" = some (some (.ref f11)))
    (l11 : K.lookup f11 = some ⟨oc11, od11, .func (PySem.W.fnOf "_law_step" "_law_step" (defArgs s_law_step) (defBody s_law_step) (defScope s_law_step) .none kV11 dc11 pm11 an11 cd11 ct11), sl11⟩)
    (c11 : PySem.W.codeIn K cd11 "_law_step" = true) (k11 : PySem.W.keepIn K (.ref f11) = true)
    {f12 : Addr} {od12 an12 : Option Addr} {sl12 : Array (Option Value)} {oc12 kV12 dc12 pm12 cd12 ct12 : Value}
    (a12 : PySem.W.nsIn K mainGlobals "_law_table" = some (some (.ref f12)))
    (l12 : K.lookup f12 = some ⟨oc12, od12, .func (PySem.W.fnOf "_law_table" "_law_table" (defArgs s_law_table) (defBody s_law_table) (defScope s_law_table) .none kV12 dc12 pm12 an12 cd12 ct12), sl12⟩)
    (c12 : PySem.W.codeIn K cd12 "_law_table" = true) (k12 : PySem.W.keepIn K (.ref f12) = true)
    {f13 : Addr} {od13 an13 : Option Addr} {sl13 : Array (Option Value)} {oc13 kV13 dc13 pm13 cd13 ct13 : Value}
    (a13 : PySem.W.nsIn K mainGlobals "_law_notes" = some (some (.ref f13)))
    (l13 : K.lookup f13 = some ⟨oc13, od13, .func (PySem.W.fnOf "_law_notes" "_law_notes" (defArgs s_law_notes) (defBody s_law_notes) (defScope s_law_notes) .none kV13 dc13 pm13 an13 cd13 ct13), sl13⟩)
    (c13 : PySem.W.codeIn K cd13 "_law_notes" = true) (k13 : PySem.W.keepIn K (.ref f13) = true)
    {f14 : Addr} {od14 an14 : Option Addr} {sl14 : Array (Option Value)} {oc14 kV14 dc14 pm14 cd14 ct14 : Value}
    (a14 : PySem.W.nsIn K mainGlobals "_law_named" = some (some (.ref f14)))
    (l14 : K.lookup f14 = some ⟨oc14, od14, .func (PySem.W.fnOf "_law_named" "_law_named" (defArgs s_law_named) (defBody s_law_named) (defScope s_law_named) .none kV14 dc14 pm14 an14 cd14 ct14), sl14⟩)
    (c14 : PySem.W.codeIn K cd14 "_law_named" = true) (k14 : PySem.W.keepIn K (.ref f14) = true)
    {f15 : Addr} {od15 an15 : Option Addr} {sl15 : Array (Option Value)} {oc15 kV15 dc15 pm15 cd15 ct15 : Value}
    (a15 : PySem.W.nsIn K mainGlobals "_law_whole" = some (some (.ref f15)))
    (l15 : K.lookup f15 = some ⟨oc15, od15, .func (PySem.W.fnOf "_law_whole" "_law_whole" (defArgs s_law_whole) (defBody s_law_whole) (defScope s_law_whole) .none kV15 dc15 pm15 an15 cd15 ct15), sl15⟩)
    (c15 : PySem.W.codeIn K cd15 "_law_whole" = true) (k15 : PySem.W.keepIn K (.ref f15) = true)
    {f16 : Addr} {od16 an16 : Option Addr} {sl16 : Array (Option Value)} {oc16 kV16 dc16 pm16 cd16 ct16 : Value}
    (a16 : PySem.W.nsIn K mainGlobals "_law_rows" = some (some (.ref f16)))
    (l16 : K.lookup f16 = some ⟨oc16, od16, .func (PySem.W.fnOf "_law_rows" "_law_rows" (defArgs s_law_rows) (defBody s_law_rows) (defScope s_law_rows) .none kV16 dc16 pm16 an16 cd16 ct16), sl16⟩)
    (c16 : PySem.W.codeIn K cd16 "_law_rows" = true) (k16 : PySem.W.keepIn K (.ref f16) = true)
    {f17 : Addr} {od17 an17 : Option Addr} {sl17 : Array (Option Value)} {oc17 kV17 dc17 pm17 cd17 ct17 : Value}
    (a17 : PySem.W.nsIn K mainGlobals "law" = some (some (.ref f17)))
    (l17 : K.lookup f17 = some ⟨oc17, od17, .func (PySem.W.fnOf "law" "law" (defArgs s_law) (defBody s_law) (defScope s_law) .none kV17 dc17 pm17 an17 cd17 ct17), sl17⟩)
    (c17 : PySem.W.codeIn K cd17 "law" = true) (k17 : PySem.W.keepIn K (.ref f17) = true)
    (z_range : PySem.W.nsIn K mainGlobals "range" = some none)
    (z_zip : PySem.W.nsIn K mainGlobals "zip" = some none)
    (z_max : PySem.W.nsIn K mainGlobals "max" = some none)
    (z_len : PySem.W.nsIn K mainGlobals "len" = some none)
    (z_sorted : PySem.W.nsIn K mainGlobals "sorted" = some none)
    (z_abs : PySem.W.nsIn K mainGlobals "abs" = some none)
    (z_int : PySem.W.nsIn K mainGlobals "int" = some none)
    (z_isinstance : PySem.W.nsIn K mainGlobals "isinstance" = some none)
    (z_bool : PySem.W.nsIn K mainGlobals "bool" = some none)
    (z_list : PySem.W.nsIn K mainGlobals "list" = some none)
    (z_tuple : PySem.W.nsIn K mainGlobals "tuple" = some none)
    (z_all : PySem.W.nsIn K mainGlobals "all" = some none)
    {tk_HANDS : Tok} (g_HANDS : PySem.W.nsIn K mainGlobals "HANDS" = some (some (.int 8 tk_HANDS))) :
    ∃ fd : FuncData, (∀ (s : Shared) (v : Value), BindsTo s fd ⟨[v], []⟩ [("script", v)]) ∧ ∀ base : Heap, K.In base → base.Ns mainGlobals mg → FnOk l.prog w K mg base CX0 5 fa fd ["script"] (spLaw K) := by
  have e := hfa.symm.trans (PySem.W.mg_of X G a17)
  cases e
  refine ⟨PySem.W.fnOf "law" "law" (defArgs s_law) (defBody s_law) (defScope s_law) .none kV17 dc17 pm17 an17 cd17 ct17, fun s v => .of_eq rfl, fun base _ _ => ?_⟩
  have F1 := fun_mk (st := s_names) l1 c1 k1
  have b1 := F1.binds (ps := ["web"]) fun _ _ _ _ _ _ us hl => match us, hl with | [_], _ => rfl
  have o1 := ok_names (P := l.prog) (w := w) (mg := mg) (base := base) F1 (PySem.W.mg_of X G g_HANDS)
  have c_names : Cal l.prog w K mg base CX0 "names" ["web"] 1 (Sf1 K (PL K) m_names) f1 _ := ⟨o1, PySem.W.mg_of X G a1, k1, b1⟩
  have F2 := fun_mk (st := s_touches_meet) l2 c2 k2
  have b2 := F2.binds (ps := ["one", "other"]) fun _ _ _ _ _ _ us hl => match us, hl with | [_, _], _ => rfl
  have o2 := ok_touches_meet (P := l.prog) (w := w) (mg := mg) (base := base) F2 
  have c_touches_meet : Cal l.prog w K mg base CX0 "touches_meet" ["one", "other"] 1 (Sp2 (PD K) (PD K) (PD K) m_touches_meet) f2 _ := ⟨o2, PySem.W.mg_of X G a2, k2, b2⟩
  have F3 := fun_mk (st := s_is_step) l3 c3 k3
  have b3 := F3.binds (ps := ["web", "i", "j"]) fun _ _ _ _ _ _ us hl => match us, hl with | [_, _, _], _ => rfl
  have o3 := ok_is_step (P := l.prog) (w := w) (mg := mg) (base := base) F3 c_touches_meet
  have c_is_step : Cal l.prog w K mg base CX0 "is_step" ["web", "i", "j"] 2 (Sp3 (PL K) (PD K) (PD K) (PD K) m_is_step) f3 _ := ⟨o3, PySem.W.mg_of X G a3, k3, b3⟩
  have F4 := fun_mk (st := s_looked_back) l4 c4 k4
  have b4 := F4.binds (ps := ["web", "called", "table", "j"]) fun _ _ _ _ _ _ us hl => match us, hl with | [_, _, _, _], _ => rfl
  have o4 := ok_looked_back (P := l.prog) (w := w) (mg := mg) (base := base) F4 c_is_step (PySem.W.mg_none_of X G z_range) (PySem.W.mg_none_of X G z_zip) (PySem.W.mg_none_of X G z_max) (PySem.W.mg_of X G g_HANDS)
  have c_looked_back : Cal l.prog w K mg base CX0 "looked_back" ["web", "called", "table", "j"] 3 (Sp4 (PL K) (PL K) (PL K) (PD K) (PD K) m_looked_back) f4 _ := ⟨o4, PySem.W.mg_of X G a4, k4, b4⟩
  have F5 := fun_mk (st := s_notes) l5 c5 k5
  have b5 := F5.binds (ps := ["web"]) fun _ _ _ _ _ _ us hl => match us, hl with | [_], _ => rfl
  have o5 := ok_notes (P := l.prog) (w := w) (mg := mg) (base := base) F5 c_names c_looked_back (PySem.W.mg_none_of X G z_len) (PySem.W.mg_none_of X G z_range) (PySem.W.mg_none_of X G z_sorted)
  have c_notes : Cal l.prog w K mg base CX0 "notes" ["web"] 4 (Sf1 K (PL K) m_notes) f5 _ := ⟨o5, PySem.W.mg_of X G a5, k5, b5⟩
  have F6 := fun_mk (st := s_law_spring) l6 c6 k6
  have b6 := F6.binds (ps := ["script"]) fun _ _ _ _ _ _ us hl => match us, hl with | [_], _ => rfl
  have o6 := ok_law_spring (P := l.prog) (w := w) (mg := mg) (base := base) F6 (PySem.W.mg_none_of X G z_abs)
  have c_law_spring : Cal l.prog w K mg base CX0 "_law_spring" ["script"] 1 (Sf1 K (PL K) m_law_spring) f6 _ := ⟨o6, PySem.W.mg_of X G a6, k6, b6⟩
  have F7 := fun_mk (st := s_law_draw) l7 c7 k7
  have b7 := F7.binds (ps := ["spring", "many"]) fun _ _ _ _ _ _ us hl => match us, hl with | [_, _], _ => rfl
  have o7 := ok_law_draw (P := l.prog) (w := w) (mg := mg) (base := base) F7 
  have c_law_draw : Cal l.prog w K mg base CX0 "_law_draw" ["spring", "many"] 1 (Sm2 K (PD K) m_law_draw) f7 _ := ⟨o7, PySem.W.mg_of X G a7, k7, b7⟩
  have F8 := fun_mk (st := s_law_web) l8 c8 k8
  have b8 := F8.binds (ps := ["spring", "most"]) fun _ _ _ _ _ _ us hl => match us, hl with | [_, _], _ => rfl
  have o8 := ok_law_web (P := l.prog) (w := w) (mg := mg) (base := base) F8 c_law_draw (PySem.W.mg_none_of X G z_int) (PySem.W.mg_none_of X G z_range) (PySem.W.mg_none_of X G z_len)
  have c_law_web : Cal l.prog w K mg base CX0 "_law_web" ["spring", "most"] 2 (Smf2 K (PD K) m_law_web) f8 _ := ⟨o8, PySem.W.mg_of X G a8, k8, b8⟩
  have F9 := fun_mk (st := s_law_calls) l9 c9 k9
  have b9 := F9.binds (ps := ["web"]) fun _ _ _ _ _ _ us hl => match us, hl with | [_], _ => rfl
  have o9 := ok_law_calls (P := l.prog) (w := w) (mg := mg) (base := base) F9 
  have c_law_calls : Cal l.prog w K mg base CX0 "_law_calls" ["web"] 1 (Sf1 K (PL K) m_law_calls) f9 _ := ⟨o9, PySem.W.mg_of X G a9, k9, b9⟩
  have F10 := fun_mk (st := s_law_meets) l10 c10 k10
  have b10 := F10.binds (ps := ["one", "other"]) fun _ _ _ _ _ _ us hl => match us, hl with | [_, _], _ => rfl
  have o10 := ok_law_meets (P := l.prog) (w := w) (mg := mg) (base := base) F10 
  have c_law_meets : Cal l.prog w K mg base CX0 "_law_meets" ["one", "other"] 1 (Sp2 (PD K) (PD K) (PD K) m_law_meets) f10 _ := ⟨o10, PySem.W.mg_of X G a10, k10, b10⟩
  have F11 := fun_mk (st := s_law_step) l11 c11 k11
  have b11 := F11.binds (ps := ["one", "other"]) fun _ _ _ _ _ _ us hl => match us, hl with | [_, _], _ => rfl
  have o11 := ok_law_step (P := l.prog) (w := w) (mg := mg) (base := base) F11 c_law_meets
  have c_law_step : Cal l.prog w K mg base CX0 "_law_step" ["one", "other"] 2 (Sp2 (PD K) (PD K) (PD K) m_law_step) f11 _ := ⟨o11, PySem.W.mg_of X G a11, k11, b11⟩
  have F12 := fun_mk (st := s_law_table) l12 c12 k12
  have b12 := F12.binds (ps := ["web", "calls"]) fun _ _ _ _ _ _ us hl => match us, hl with | [_, _], _ => rfl
  have o12 := ok_law_table (P := l.prog) (w := w) (mg := mg) (base := base) F12 c_law_step (PySem.W.mg_none_of X G z_len) (PySem.W.mg_none_of X G z_range) (PySem.W.mg_none_of X G z_max)
  have c_law_table : Cal l.prog w K mg base CX0 "_law_table" ["web", "calls"] 3 (Sf2 K (PL K) (PL K) m_law_table) f12 _ := ⟨o12, PySem.W.mg_of X G a12, k12, b12⟩
  have F13 := fun_mk (st := s_law_notes) l13 c13 k13
  have b13 := F13.binds (ps := ["web", "calls", "table"]) fun _ _ _ _ _ _ us hl => match us, hl with | [_, _, _], _ => rfl
  have o13 := ok_law_notes (P := l.prog) (w := w) (mg := mg) (base := base) F13 c_law_step (PySem.W.mg_none_of X G z_len) (PySem.W.mg_none_of X G z_range)
  have c_law_notes : Cal l.prog w K mg base CX0 "_law_notes" ["web", "calls", "table"] 3 (Sf3 K (PL K) (PL K) (PL K) m_law_notes) f13 _ := ⟨o13, PySem.W.mg_of X G a13, k13, b13⟩
  have F14 := fun_mk (st := s_law_named) l14 c14 k14
  have b14 := F14.binds (ps := ["calls", "pairs"]) fun _ _ _ _ _ _ us hl => match us, hl with | [_, _], _ => rfl
  have o14 := ok_law_named (P := l.prog) (w := w) (mg := mg) (base := base) F14 (PySem.W.mg_none_of X G z_sorted)
  have c_law_named : Cal l.prog w K mg base CX0 "_law_named" ["calls", "pairs"] 1 (Sf2 K (PL K) (PL K) m_law_named) f14 _ := ⟨o14, PySem.W.mg_of X G a14, k14, b14⟩
  have F15 := fun_mk (st := s_law_whole) l15 c15 k15
  have b15 := F15.binds (ps := ["found"]) fun _ _ _ _ _ _ us hl => match us, hl with | [_], _ => rfl
  have o15 := ok_law_whole (P := l.prog) (w := w) (mg := mg) (base := base) F15 (PySem.W.mg_none_of X G z_isinstance) (PySem.W.mg_none_of X G z_int) (PySem.W.mg_none_of X G z_bool)
  have c_law_whole : Cal l.prog w K mg base CX0 "_law_whole" ["found"] 1 (Sp1 (PD K) (PD K) m_law_whole) f15 _ := ⟨o15, PySem.W.mg_of X G a15, k15, b15⟩
  have F16 := fun_mk (st := s_law_rows) l16 c16 k16
  have b16 := F16.binds (ps := ["found", "due"]) fun _ _ _ _ _ _ us hl => match us, hl with | [_, _], _ => rfl
  have o16 := ok_law_rows (P := l.prog) (w := w) (mg := mg) (base := base) F16 c_law_whole (PySem.W.mg_none_of X G z_isinstance) (PySem.W.mg_none_of X G z_list) (PySem.W.mg_none_of X G z_len) (PySem.W.mg_none_of X G z_tuple) (PySem.W.mg_none_of X G z_all)
  have c_law_rows : Cal l.prog w K mg base CX0 "_law_rows" ["found", "due"] 2 (Sp2 (PL K) (PL K) (PD K) m_law_rows) f16 _ := ⟨o16, PySem.W.mg_of X G a16, k16, b16⟩
  have F17 := fun_mk (st := s_law) l17 c17 k17
  have b17 := F17.binds (ps := ["script"]) fun _ _ _ _ _ _ us hl => match us, hl with | [_], _ => rfl
  have o17 := ok_law (P := l.prog) (w := w) (mg := mg) (base := base) F17 c_law_spring c_law_web c_law_calls c_law_named c_law_notes c_law_table c_notes c_law_rows (PySem.W.mg_none_of X G z_list)
  refine FnOk.imp o17 fun vs H Q E hq => ?_
  obtain ⟨a, ns, rfl, hS, hl, q⟩ := hq
  refine ⟨[], H, .ref a, ns, rfl, ⟨Same.refl _, (fun r hr => nomatch hr), List.nodup_nil⟩, ⟨a, _, rfl, ints_dl, .inl hS⟩, run_mono (law_true hl) fun r hr v H' Ho' e z d => ?_⟩
  subst hr
  rw [d_bool d]
  exact q H'
end M
open PySem PySem.W PyProof.Rows
set_option maxHeartbeats 0 in
theorem PySem.Challenge.cw_fewnotes_k23_the_notes_holds : PySem.Challenge.rw_fewnotes_k23_the_notes.Holds := by
  w_on; o_law; k_head; (case hw => w_witness2)
  k_fill
  refine L2.walk_of (l := PySem.Challenge.rw_fewnotes_k23_the_notes) (n := 63) (k := 5) (x := "script") (CX := fun _ => L2.CX0) (sp := fun w => M.spLaw _) rfl (by decide) rfl ⟨rfl, by decide, by decide⟩ (fun w h Y => PySem.W.kIn_of Y) ?F (fun _ _ a ns hl _ hS => ⟨a, ns, rfl, hS, hl, fun _ => rfl⟩) (fun _ _ _ _ _ h => h)
  case F =>
    intro w mg fa h KX G hmg
    refine' M.all_mk KX G hmg ?a1 ?l1 ?c1 ?k1 ?a2 ?l2 ?c2 ?k2 ?a3 ?l3 ?c3 ?k3 ?a4 ?l4 ?c4 ?k4 ?a5 ?l5 ?c5 ?k5 ?a6 ?l6 ?c6 ?k6 ?a7 ?l7 ?c7 ?k7 ?a8 ?l8 ?c8 ?k8 ?a9 ?l9 ?c9 ?k9 ?a10 ?l10 ?c10 ?k10 ?a11 ?l11 ?c11 ?k11 ?a12 ?l12 ?c12 ?k12 ?a13 ?l13 ?c13 ?k13 ?a14 ?l14 ?c14 ?k14 ?a15 ?l15 ?c15 ?k15 ?a16 ?l16 ?c16 ?k16 ?a17 ?l17 ?c17 ?k17 ?z_range ?z_zip ?z_max ?z_len ?z_sorted ?z_abs ?z_int ?z_isinstance ?z_bool ?z_list ?z_tuple ?z_all ?g_HANDS
    (case a1 => k_is); (case l1 => k_is); (case c1 => k_is); (case k1 => k_is); (case a2 => k_is); (case l2 => k_is); (case c2 => k_is); (case k2 => k_is); (case a3 => k_is); (case l3 => k_is); (case c3 => k_is); (case k3 => k_is); (case a4 => k_is); (case l4 => k_is); (case c4 => k_is); (case k4 => k_is); (case a5 => k_is); (case l5 => k_is); (case c5 => k_is); (case k5 => k_is); (case a6 => k_is); (case l6 => k_is); (case c6 => k_is); (case k6 => k_is); (case a7 => k_is); (case l7 => k_is); (case c7 => k_is); (case k7 => k_is); (case a8 => k_is); (case l8 => k_is); (case c8 => k_is); (case k8 => k_is); (case a9 => k_is); (case l9 => k_is); (case c9 => k_is); (case k9 => k_is); (case a10 => k_is); (case l10 => k_is); (case c10 => k_is); (case k10 => k_is); (case a11 => k_is); (case l11 => k_is); (case c11 => k_is); (case k11 => k_is); (case a12 => k_is); (case l12 => k_is); (case c12 => k_is); (case k12 => k_is); (case a13 => k_is); (case l13 => k_is); (case c13 => k_is); (case k13 => k_is); (case a14 => k_is); (case l14 => k_is); (case c14 => k_is); (case k14 => k_is); (case a15 => k_is); (case l15 => k_is); (case c15 => k_is); (case k15 => k_is); (case a16 => k_is); (case l16 => k_is); (case c16 => k_is); (case k16 => k_is); (case a17 => k_is); (case l17 => k_is); (case c17 => k_is); (case k17 => k_is); (case z_range => k_is); (case z_zip => k_is); (case z_max => k_is); (case z_len => k_is); (case z_sorted => k_is); (case z_abs => k_is); (case z_int => k_is); (case z_isinstance => k_is); (case z_bool => k_is); (case z_list => k_is); (case z_tuple => k_is); (case z_all => k_is); (case g_HANDS => k_is)

