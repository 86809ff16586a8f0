import PyProof.Rows.All
import Wide.All
import OpenK.AllK
import Wide.FinOn
import HandS.ForMost
import HandS.ForExc
import HandS.Wide
import HandS.IsInst
import HandS.Deep
import HandS.SortKw
import HandS.SortRule
import HandS.TupSets
import HandS.ExcIs
import HandS.TryMany
import HandS.StrMore
import HandS.FStr
import HandS.Strs
import HandS.SetFor
import HandS.ListItems
import HandS.SetKeys
import HandS.TupAny
import HandS.Defaults
import KE.DatumOrd
import HandS.SortInts
import HandS.Conv
import HandS.More
import KE.KDictKeyed
import PySem.Challenge.RW_fewnotes_k21_orders_of_a_web
set_option Elab.async false
set_option linter.all false
set_option maxRecDepth 100000
set_option maxHeartbeats 4000000
namespace Z
open PySem PySem.Spec PyProof.Rows L2
/-! ### computations by what they promise -/
structure Er where
  cls : Nat
  arg : PyData := .none

structure W (α : Type) where
  run : (α → Prop) → Prop
  mono : ∀ (Φ Φ' : α → Prop), (∀ a, Φ a → Φ' a) → run Φ → run Φ'

namespace W
variable {α β γ : Type}
def ret (a : α) : W α := ⟨fun Φ => Φ a, fun _ _ h q => h a q⟩
def bind (c : W α) (f : α → W β) : W β := ⟨fun Φ => c.run (fun a => (f a).run Φ), fun Φ Φ' h q => c.mono _ _ (fun a z => (f a).mono _ _ h z) q⟩
def guard (p : Prop) (c : W α) : W α := ⟨fun Φ => p ∧ c.run Φ, fun _ _ h q => ⟨q.1, c.mono _ _ h q.2⟩⟩
def ite (b : Bool) (x y : W α) : W α := ⟨fun Φ => (b = true → x.run Φ) ∧ (b = false → y.run Φ), fun _ _ h q => ⟨fun e => x.mono _ _ h (q.1 e), fun e => y.mono _ _ h (q.2 e)⟩⟩
def opt (o : Option α) : W α := ⟨fun Φ => ∃ a, o = some a ∧ Φ a, fun _ _ h ⟨a, e, q⟩ => ⟨a, e, h a q⟩⟩
def bad : W α := ⟨fun _ => False, fun _ _ _ q => q⟩
end W

/-- an answer, or an error -/
inductive Ex (α : Type) where
  | ok (a : α) | er (e : Er)
/-- how a loop's turn ends -/
inductive Ctl (ρ S : Type) where
  | nx (s : S) | bk (s : S) | rt (r : ρ)

def CtlP {ρ S : Type} (N B : S → Prop) (Φ : ρ → Prop) : Ctl ρ S → Prop
  | .nx s => N s
  | .bk s => B s
  | .rt r => Φ r
theorem ctl_nx {ρ S : Type} {N B : S → Prop} {Φ : ρ → Prop} {s : S} (h : CtlP N B Φ (.nx s)) : N s := h
theorem ctl_bk {ρ S : Type} {N B : S → Prop} {Φ : ρ → Prop} {s : S} (h : CtlP N B Φ (.bk s)) : B s := h
theorem ctl_rt {ρ S : Type} {N B : S → Prop} {Φ : ρ → Prop} {r : ρ} (h : CtlP N B Φ (.rt r)) : Φ r := h
namespace W
variable {α β γ ρ S : Type}
def forL : List α → S → (α → S → W S) → W S
  | [], s, _ => ret s
  | x :: xs, s, f => bind (f x s) fun s' => forL xs s' f
/-- a loop that may be left -/
def forC : List α → S → (α → S → W (Ctl ρ S)) → W (Ctl ρ S)
  | [], s, _ => ret (.nx s)
  | x :: xs, s, f => bind (f x s) fun c => match c with
    | .nx s' => forC xs s' f
    | .bk s' => ret (.nx s')
    | .rt r => ret (.rt r)
def bind2 {α β γ : Type} (c : W (α × β)) (f : α → β → W γ) : W γ := ⟨fun Φ => c.run fun r => (f r.1 r.2).run Φ, fun Φ Φ' h q => c.mono _ _ (fun a z => (f a.1 a.2).mono _ _ h z) q⟩
def bindX {α β : Type} (c : W (Ex α)) (f : α → W (Ex β)) : W (Ex β) := bind c fun r => match r with
  | .ok a => f a
  | .er e => ret (.er e)
def after (c : Ctl ρ S) (k : S → W ρ) : W ρ := match c with
  | .nx s => k s
  | .bk s => k s
  | .rt r => ret r
/-- a while loop: a turn tells whether it is left (bk) -/
def whileN : Nat → S → (S → W (Ctl ρ S)) → W (Ctl ρ S)
  | 0, _, _ => bad
  | n + 1, s, f => bind (f s) fun c => match c with
    | .nx s' => whileN n s' f
    | .bk s' => ret (.nx s')
    | .rt r => ret (.rt r)
def whileL (s : S) (f : S → W (Ctl ρ S)) : W (Ctl ρ S) := ⟨fun Φ => ∃ n, (whileN n s f).run Φ, fun _ _ h ⟨n, q⟩ => ⟨n, (whileN n s f).mono _ _ h q⟩⟩
end W
/-! ### data -/
class Py (α : Type) where
  toPy : α → PyData
abbrev toPy {α : Type} [Py α] (a : α) : PyData := Py.toPy a
structure P3 (α β γ : Type) where
  a : α
  b : β
  c : γ
  deriving DecidableEq
structure P4 (α β γ δ : Type) where
  a : α
  b : β
  c : γ
  d : δ
  deriving DecidableEq
structure P5 (α β γ δ ε : Type) where
  a : α
  b : β
  c : γ
  d : δ
  e : ε
  deriving DecidableEq
/-- a tuple of things of one kind -/
structure Tp (α : Type) where
  l : List α
  deriving DecidableEq
instance : Py Int := ⟨.int⟩
instance : Py Bool := ⟨.bool⟩
instance : Py Str := ⟨.str⟩
instance : Py Unit := ⟨fun _ => .none⟩
instance : Py PyData := ⟨id⟩
instance {α : Type} [Py α] : Py (Option α) := ⟨fun o => match o with | none => .none | some a => toPy a⟩
instance {α : Type} [Py α] : Py (List α) := ⟨fun xs => .list (xs.map Py.toPy)⟩
instance {α : Type} [Py α] : Py (Tp α) := ⟨fun xs => .tuple (xs.l.map Py.toPy)⟩
instance {α β : Type} [Py α] [Py β] : Py (α × β) := ⟨fun p => .tuple [toPy p.1, toPy p.2]⟩
instance {α β γ : Type} [Py α] [Py β] [Py γ] : Py (P3 α β γ) := ⟨fun p => .tuple [toPy p.a, toPy p.b, toPy p.c]⟩
instance {α β γ δ : Type} [Py α] [Py β] [Py γ] [Py δ] : Py (P4 α β γ δ) := ⟨fun p => .tuple [toPy p.a, toPy p.b, toPy p.c, toPy p.d]⟩
instance {α β γ δ ε : Type} [Py α] [Py β] [Py γ] [Py δ] [Py ε] : Py (P5 α β γ δ ε) := ⟨fun p => .tuple [toPy p.a, toPy p.b, toPy p.c, toPy p.d, toPy p.e]⟩
/-! a value is data; each tuple is tracked -/
mutual
inductive Dq (K : PySem.W.Frag) (H : Hp) : V → PyData → Prop
  | non : Dq K H .non .none
  | bl (b : Bool) : Dq K H (.bl b) (.bool b)
  | int (i : Int) : Dq K H (.int i) (.int i)
  | str (x : Str) : Dq K H (.str x) (.str x)
  | lst {a : Addr} {vs : List V} {ds : List PyData} (hs : SqL K H a vs) (hd : DqAll K H vs ds) : Dq K H (.ref a) (.list ds)
  | tup {a : Addr} {vs : List V} {ds : List PyData} (hs : H a = some (.tup vs)) (hd : DqAll K H vs ds) : Dq K H (.ref a) (.tuple ds)
inductive DqAll (K : PySem.W.Frag) (H : Hp) : List V → List PyData → Prop
  | nil : DqAll K H [] []
  | cons {v : V} {vs : List V} {d : PyData} {ds : List PyData} (h : Dq K H v d) (hs : DqAll K H vs ds) : DqAll K H (v :: vs) (d :: ds)
end
section
variable {K : PySem.W.Frag} {H H' : Hp}
theorem Same.sqT {a : Addr} {xs : List V} (e : Same H H') (h : SqT K H a xs) : SqT K H' a xs := by
  rcases h with (h | ⟨o, h⟩) | h
  · exact .inl (.inl (e _ _ h))
  · exact .inl (.inr ⟨o, e _ _ h⟩)
  · exact .inr h
mutual
theorem dp_mono (e : Same H H') : ∀ (d : PyData) (v : V), Dq K H v d → Dq K H' v d
  | .none, _, h => by cases h; exact .non
  | .bool b, _, h => by cases h; exact .bl b
  | .int i, _, h => by cases h; exact .int i
  | .str x, _, h => by cases h; exact .str x
  | .list ds, _, h => by
    cases h with
    | lst hs ha => exact .lst (e.seq hs) (dpAll_mono e ds _ ha)
  | .tuple ds, _, h => by
    cases h with
    | tup hs ha => exact .tup (e _ _ hs) (dpAll_mono e ds _ ha)
  | .dict _, _, h => by cases h
theorem dpAll_mono (e : Same H H') : ∀ (ds : List PyData) (vs : List V), DqAll K H vs ds → DqAll K H' vs ds
  | [], _, h => by cases h; exact .nil
  | d :: ds, _, h => by
    cases h with
    | cons h1 h2 => exact .cons (dp_mono e d _ h1) (dpAll_mono e ds _ h2)
end
mutual
theorem Dq.dp : ∀ (d : PyData) (v : V), Dq K H v d → Dp K H v d
  | .none, _, h => by cases h; exact .non
  | .bool b, _, h => by cases h; exact .bl b
  | .int i, _, h => by cases h; exact .int i
  | .str x, _, h => by cases h; exact .str x
  | .list ds, _, h => by
    cases h with
    | lst hs ha => exact .lst hs (DqAll.dp ds _ ha)
  | .tuple ds, _, h => by
    cases h with
    | tup hs ha => exact .tup (SqT.of hs) (DqAll.dp ds _ ha)
  | .dict _, _, h => by cases h
theorem DqAll.dp : ∀ (ds : List PyData) (vs : List V), DqAll K H vs ds → DpAll K H vs ds
  | [], _, h => by cases h; exact .nil
  | d :: ds, _, h => by
    cases h with
    | cons h1 h2 => exact .cons (Dq.dp d _ h1) (DqAll.dp ds _ h2)
end
end
section
variable {K : PySem.W.Frag} {H H' : Hp} {α : Type} [Py α]
abbrev D (K : PySem.W.Frag) (H : Hp) (v : V) (x : α) : Prop := Dq K H v (toPy x)
abbrev DL (K : PySem.W.Frag) (H : Hp) (vs : List V) (xs : List α) : Prop := DqAll K H vs (xs.map Py.toPy)
theorem D.mo {v : V} {x : α} (h : D K H v x) (e : Same H H') : D K H' v x := dp_mono e _ _ h
theorem DL.mo {vs : List V} {xs : List α} (h : DL K H vs xs) (e : Same H H') : DL K H' vs xs := dpAll_mono e _ _ h
theorem d_int {v : V} {i : Int} (h : D K H v i) : v = .int i := by cases h; rfl
theorem d_bool {v : V} {i : Bool} (h : D K H v i) : v = .bl i := by cases h; rfl
theorem d_str {v : V} {i : Str} (h : D K H v i) : v = .str i := by cases h; rfl
theorem dpAll_len {vs : List V} : ∀ {ds : List PyData}, DqAll K H vs ds → vs.length = ds.length := by
  induction vs with
  | nil => intro ds h; cases h; rfl
  | cons v vs ih => intro ds h; cases h with | cons h1 h2 => simp [ih h2]
theorem DL.len {vs : List V} {xs : List α} (h : DL K H vs xs) : vs.length = xs.length := by
  have := dpAll_len h
  simpa using this
theorem dpAll_get {vs : List V} : ∀ {ds : List PyData} {i : Nat} {d : PyData}, DqAll K H vs ds → ds[i]? = some d → ∃ v, vs[i]? = some v ∧ Dq K H v d := by
  induction vs with
  | nil => intro ds i d h e; cases h; simp at e
  | cons v vs ih =>
    intro ds i d h e
    cases h with
    | cons h1 h2 =>
      cases i with
      | zero => simp at e; subst e; exact ⟨v, rfl, h1⟩
      | succ i => simpa using ih h2 (by simpa using e)
theorem DL.get {vs : List V} {xs : List α} {i : Nat} {x : α} (h : DL K H vs xs) (e : xs[i]? = some x) : ∃ v, vs[i]? = some v ∧ D K H v x :=
  dpAll_get h (by simp [e])
theorem DL.at {vs : List V} {xs : List α} {i : Int} {x : α} (h : DL K H vs xs) (e : atI xs i = some x) : ∃ v, atI vs i = some v ∧ D K H v x := by
  unfold atI at e ⊢
  rw [h.len]
  cases q : ixN xs.length i with
  | none => rw [q] at e; cases e
  | some j =>
    rw [q] at e
    exact h.get e
theorem dpAll_append {vs ws : List V} {ds es : List PyData} (h : DqAll K H vs ds) (h' : DqAll K H ws es) : DqAll K H (vs ++ ws) (ds ++ es) := by
  induction vs generalizing ds with
  | nil => cases h; exact h'
  | cons v vs ih => cases h with | cons h1 h2 => exact .cons h1 (ih h2)
theorem DL.append {vs ws : List V} {xs ys : List α} (h : DL K H vs xs) (h' : DL K H ws ys) : DL K H (vs ++ ws) (xs ++ ys) := by
  unfold DL; rw [List.map_append]; exact dpAll_append h h'
theorem DL.push {vs : List V} {xs : List α} {v : V} {x : α} (h : DL K H vs xs) (h' : D K H v x) : DL K H (vs ++ [v]) (xs ++ [x]) :=
  h.append (.cons h' .nil)
theorem dpAll_set {vs : List V} {ds : List PyData} {v : V} {d : PyData} (h : DqAll K H vs ds) (h' : Dq K H v d) (j : Nat) : DqAll K H (vs.set j v) (ds.set j d) := by
  induction vs generalizing ds j with
  | nil => cases h; exact .nil
  | cons u vs ih =>
    cases h with
    | cons h1 h2 =>
      cases j with
      | zero => exact .cons h' h2
      | succ j => exact .cons h1 (ih h2 j)
theorem DL.set {vs : List V} {xs : List α} {v : V} {x : α} (h : DL K H vs xs) (h' : D K H v x) (j : Nat) : DL K H (vs.set j v) (xs.set j x) := by
  unfold DL; rw [List.map_set]; exact dpAll_set h h' j
theorem dpAll_take {vs : List V} {ds : List PyData} (h : DqAll K H vs ds) (n : Nat) : DqAll K H (vs.take n) (ds.take n) := by
  induction n generalizing vs ds with
  | zero => exact .nil
  | succ n ih => cases h with | nil => exact .nil | cons h1 h2 => exact .cons h1 (ih h2)
theorem dpAll_drop {vs : List V} {ds : List PyData} (h : DqAll K H vs ds) (n : Nat) : DqAll K H (vs.drop n) (ds.drop n) := by
  induction n generalizing vs ds with
  | zero => exact h
  | succ n ih => cases h with | nil => exact .nil | cons h1 h2 => exact ih h2
def cut {α : Type} (xs : List α) (lo hi : Option Int) : List α := (xs.drop (HT.sIx xs.length 0 lo)).take (HT.sIx xs.length xs.length hi - HT.sIx xs.length 0 lo)
theorem DL.cut {vs : List V} {xs : List α} (h : DL K H vs xs) (lo hi : Option Int) : DL K H (cutV vs lo hi) (Z.cut xs lo hi) := by
  unfold DL cutV Z.cut
  rw [List.map_take, List.map_drop, h.len]
  exact dpAll_take (dpAll_drop h _) _
theorem dl_ints {vs : List V} : ∀ {xs : List Int}, DL K H vs xs → vs = xs.map V.int := by
  induction vs with
  | nil => intro xs h; cases xs with | nil => rfl | cons x xs => cases h
  | cons v vs ih =>
    intro xs h
    cases xs with
    | nil => cases h
    | cons x xs => cases h with | cons h1 h2 => rw [ih h2, d_int h1]; rfl
theorem dl_bools {vs : List V} : ∀ {xs : List Bool}, DL K H vs xs → vs = xs.map V.bl := by
  induction vs with
  | nil => intro xs h; cases xs with | nil => rfl | cons x xs => cases h
  | cons v vs ih =>
    intro xs h
    cases xs with
    | nil => cases h
    | cons x xs => cases h with | cons h1 h2 => rw [ih h2, d_bool h1]; rfl
theorem ints_dl : ∀ {xs : List Int}, DL K H (xs.map V.int) xs
  | [] => .nil
  | x :: xs => .cons (.int x) ints_dl
end

/-! ### the state: what stands for good (Ho), what may be written (rs) -/
structure Zs (rs : List (Addr × HO)) (H Ho : Hp) : Prop where
  le : Same Ho H
  rt : ∀ r ∈ rs, H r.1 = some r.2 ∧ Ho r.1 = none
  nd : (rs.map (·.1)).Nodup

section
variable {K : PySem.W.Frag} {H Ho H' Ho' : Hp} {rs : List (Addr × HO)} {p q : Addr} {o o' : HO}
theorem Zs.free (z : Zs rs H Ho) (h : H q = none) : Ho q = none := z.le.free h
theorem Zs.nin (z : Zs rs H Ho) (h : H q = none) : ∀ r ∈ rs, r.1 ≠ q := fun r hr e => by
  have := (z.rt r hr).1
  rw [e, h] at this
  cases this
/-- a new object that stays -/
theorem Zs.alloc (z : Zs rs H Ho) (h : H q = none) : Zs rs (upd H q o) (upd Ho q o) :=
  ⟨fun b x e => by
    by_cases hb : b = q
    · subst hb; rw [upd_same] at e ⊢; exact e
    · rw [upd_ne hb] at e ⊢; exact z.le b x e,
   fun r hr => by
    have ne := z.nin h r hr
    rw [upd_ne ne, upd_ne ne]; exact z.rt r hr, z.nd⟩
theorem Same.new (h : Ho q = none) : Same Ho (upd Ho q o) := fun b x e => by
  rw [upd_ne (ne_of_none e h)]; exact e
/-- a new object that may be written -/
theorem Zs.root (z : Zs rs H Ho) (h : H q = none) : Zs ((q, o) :: rs) (upd H q o) Ho :=
  ⟨fun b x e => by
    rw [upd_ne (ne_of_none (z.le b x e) h)]; exact z.le b x e,
   fun r hr => by
    rcases List.mem_cons.mp hr with e | hr
    · subst e; exact ⟨upd_same, z.free h⟩
    · rw [upd_ne (z.nin h r hr)]; exact z.rt r hr,
   List.nodup_cons.mpr ⟨fun hm => by
    obtain ⟨r, hr, e⟩ := List.mem_map.mp hm
    exact z.nin h r hr e, z.nd⟩⟩
theorem Zs.put (z : Zs ((p, o) :: rs) H Ho) : Zs ((p, o') :: rs) (upd H p o') Ho :=
  ⟨fun b x e => by
    have np : b ≠ p := fun e' => by subst e'; rw [(z.rt _ List.mem_cons_self).2] at e; cases e
    rw [upd_ne np]; exact z.le b x e,
   fun r hr => by
    rcases List.mem_cons.mp hr with e | hr
    · subst e; exact ⟨upd_same, (z.rt _ List.mem_cons_self).2⟩
    · have np : r.1 ≠ p := fun e' => by
        have := (List.nodup_cons.mp z.nd).1
        exact this (List.mem_map.mpr ⟨r, hr, e'⟩)
      rw [upd_ne np]; exact z.rt r (List.mem_cons_of_mem _ hr), z.nd⟩
theorem Zs.tail (z : Zs ((p, o) :: rs) H Ho) : Zs rs H Ho :=
  ⟨z.le, fun r hr => z.rt r (List.mem_cons_of_mem _ hr), (List.nodup_cons.mp z.nd).2⟩
theorem Zs.head (z : Zs ((p, o) :: rs) H Ho) : H p = some o := (z.rt _ List.mem_cons_self).1
theorem Zs.headN (z : Zs ((p, o) :: rs) H Ho) : Ho p = none := (z.rt _ List.mem_cons_self).2
/-- what may be written stands for good from now on -/
theorem Zs.freeze (z : Zs ((p, o) :: rs) H Ho) : Zs rs H (upd Ho p o) :=
  ⟨fun b x e => by
    by_cases hb : b = p
    · subst hb; rw [upd_same] at e; rw [← e]; exact z.head
    · rw [upd_ne hb] at e; exact z.le b x e,
   fun r hr => by
    have np : r.1 ≠ p := fun e' => (List.nodup_cons.mp z.nd).1 (List.mem_map.mpr ⟨r, hr, e'⟩)
    rw [upd_ne np]; exact z.rt r (List.mem_cons_of_mem _ hr), (List.nodup_cons.mp z.nd).2⟩
theorem Zs.perm {rs' : List (Addr × HO)} (z : Zs rs H Ho) (h : rs.Perm rs') : Zs rs' H Ho :=
  ⟨z.le, fun r hr => z.rt r (h.mem_iff.mpr hr), (h.map _).nodup_iff.mp z.nd⟩
theorem perm1 {α : Type} {a b : α} {l : List α} : (a :: b :: l).Perm (b :: a :: l) := List.Perm.swap b a l
theorem perm2 {α : Type} {a b c : α} {l : List α} : (a :: b :: c :: l).Perm (c :: a :: b :: l) :=
  (List.Perm.cons a (List.Perm.swap c b l)).trans (List.Perm.swap c a (b :: l))
theorem perm2' {α : Type} {a b c : α} {l : List α} : (c :: a :: b :: l).Perm (a :: b :: c :: l) := perm2.symm
theorem perm3 {α : Type} {a b c d : α} {l : List α} : (a :: b :: c :: d :: l).Perm (d :: a :: b :: c :: l) :=
  (List.Perm.cons a perm2).trans (List.Perm.swap d a (b :: c :: l))
theorem perm3' {α : Type} {a b c d : α} {l : List α} : (d :: a :: b :: c :: l).Perm (a :: b :: c :: d :: l) := perm3.symm
theorem Zs.sw1 {a b : Addr × HO} (z : Zs (a :: b :: rs) H Ho) : Zs (b :: a :: rs) H Ho := z.perm perm1
theorem Zs.sw2 {a b c : Addr × HO} (z : Zs (a :: b :: c :: rs) H Ho) : Zs (c :: a :: b :: rs) H Ho := z.perm perm2
theorem Zs.sw2' {a b c : Addr × HO} (z : Zs (c :: a :: b :: rs) H Ho) : Zs (a :: b :: c :: rs) H Ho := z.perm perm2'
theorem Zs.sw3 {a b c d : Addr × HO} (z : Zs (a :: b :: c :: d :: rs) H Ho) : Zs (d :: a :: b :: c :: rs) H Ho := z.perm perm3
theorem Zs.sw3' {a b c d : Addr × HO} (z : Zs (d :: a :: b :: c :: rs) H Ho) : Zs (a :: b :: c :: d :: rs) H Ho := z.perm perm3'
end

/-- a list that is read -/
def LV {α : Type} [Py α] (K : PySem.W.Frag) (rs : List (Addr × HO)) (Ho : Hp) (v : V) (xs : List α) : Prop :=
  ∃ p vs, v = .ref p ∧ DL K Ho vs xs ∧ (SqL K Ho p vs ∨ (p, HO.lst vs) ∈ rs)
section
variable {K : PySem.W.Frag} {H Ho H' Ho' : Hp} {rs rs' : List (Addr × HO)} {α : Type} [Py α] {v : V} {xs : List α}
theorem LV.mo (h : LV K rs Ho v xs) (e : Same Ho Ho') : LV K rs Ho' v xs := by
  obtain ⟨p, vs, rfl, d, s⟩ := h
  exact ⟨p, vs, rfl, DL.mo d e, s.imp (fun s => e.seq s) id⟩
theorem LV.sub (h : LV K rs Ho v xs) (e : ∀ r ∈ rs, r ∈ rs') : LV K rs' Ho v xs := by
  obtain ⟨p, vs, rfl, d, s⟩ := h
  exact ⟨p, vs, rfl, d, s.imp id (e _)⟩
theorem LV.cons {r : Addr × HO} (h : LV K rs Ho v xs) : LV K (r :: rs) Ho v xs := h.sub fun _ m => List.mem_cons_of_mem _ m
theorem LV.of (h : D K Ho v xs) : LV K rs Ho v xs := by
  cases h with
  | lst hs ha => exact ⟨_, _, rfl, ha, .inl hs⟩
theorem LV.rd (h : LV K rs Ho v xs) (z : Zs rs H Ho) : ∃ p vs, v = .ref p ∧ DL K Ho vs xs ∧ SqL K H p vs := by
  obtain ⟨p, vs, rfl, d, s⟩ := h
  refine ⟨p, vs, rfl, d, ?_⟩
  rcases s with s | s
  · exact z.le.seq s
  · exact SqL.of (z.rt _ s).1
theorem LV.dp (h : LV K rs Ho v xs) (z : Zs rs H Ho) : D K H v xs := by
  obtain ⟨p, vs, rfl, d, s⟩ := h.rd z
  exact .lst s (DL.mo d z.le)
theorem lv_root {p : Addr} {vs : List V} (d : DL K Ho vs xs) (m : (p, HO.lst vs) ∈ rs) : LV K rs Ho (.ref p) xs := ⟨p, vs, rfl, d, .inr m⟩
end


/-! ### more rules of the machine -/
section
variable {X : Cx}
def rCatS (K : PySem.W.Frag) : R2 := fun x y H Q => ∃ l b xs zs, x = .ref l ∧ y = .ref b ∧ SqL K H l xs ∧ SqL K H b zs ∧ xs.length + zs.length ≤ sizeLine ∧ ∀ p, H p = none → Q (.ref p) (upd H p (.lst (xs ++ zs)))
theorem op_catS : OpR X (binaryOp .Add) (rCatS X.K) := by
  intro pins s σ H x y v u Q I rx ry h
  obtain ⟨l, b, xs, zs, rfl, rfl, hH, hB, hz, q⟩ := h
  cases rx
  cases ry
  obtain ⟨its, r, pl, _⟩ := I.list hH
  obtain ⟨its2, r2, pl2, _⟩ := I.list hB
  have hl := r.length
  have hl2 := r2.length
  obtain ⟨⟨cls, dd, data, sl⟩, ho, hc, n, hd⟩ := pl.isList
  obtain ⟨⟨cls2, dd2, data2, sl2⟩, ho2, hc2, n2, hd2⟩ := pl2.isList
  simp only at hc hd hc2 hd2
  subst hc hd hc2 hd2
  have ea : its.toArray ++ its2.toArray = (its ++ its2).toArray := by simp
  refine concat_meets ⟨_, ho, rfl⟩ ⟨_, ho2, rfl⟩ noFill_list_add seq_list_add PySem.F.slot_list_add PySem.F.entry_list_add (PySem.F.args_list_add_2 _ _) (list_addW l b its.toArray its2.toArray n n2 dd dd2 sl sl2 (by simp only [List.size_toArray]; omega)) ⟨ho, ho2, ?_⟩
  rw [ea]
  exact ⟨.ref _, _, I.lnew (t' := s.toks) (r.append r2) (by rw [List.length_append]; omega), rfl, q _ I.fresh⟩
/-- xs[i] as the old value of xs[i] op= e -/
theorem get_list : PGet X (rIxL X.K) := by
  intro pins s σ H o i ov iv Q I ro ri h
  obtain ⟨p, xs, i, z, rfl, rfl, hq, he, q⟩ := h
  cases ro
  obtain ⟨t, rfl⟩ := ri
  obtain ⟨its, r, pl, hz⟩ := I.list hq
  obtain ⟨j, h1, h2, h3, h4, h5⟩ := atI_get he
  obtain ⟨w, ew, rw'⟩ := r.get h2
  have hl := r.length
  have hn := line63
  have fin : EP X pins σ Q w s := ⟨z, H, I, rw', q⟩
  by_cases h0 : 0 ≤ i
  · have hj : i.toNat = j := by
      rw [seqIndex_of h0 h5] at h1
      exact Option.some.inj h1
    exact wpAny_getItem_list pl.isList h0 (by omega) (by rw [hj]; simpa using ew) fin
  · have hj : (i + (its.toArray.size : Int)).toNat = j := by
      rw [seqIndex_neg (by omega) h4] at h1
      rw [List.size_toArray, ← hl]
      exact Option.some.inj h1
    exact wpAny_getItem_list_neg pl.isList (by omega) (by rw [List.size_toArray] <;> omega) (by omega) (by rw [hj]; simpa using ew) fin
end
end Z

/-! # Y1: readings step by step -/
namespace Z
open PySem PySem.Spec PyProof.Rows L2

/-! ### roots -/
theorem Zs.putI {rs : List (Addr × HO)} {H Ho : Hp} {n : Nat} {p : Addr} {o o' : HO} (z : Zs rs H Ho) (h : rs[n]? = some (p, o)) : Zs (rs.set n (p, o')) (upd H p o') Ho := by
  have hp := z.rt (p, o) (List.mem_of_getElem? h)
  have idx : ∀ m r, rs[m]? = some r → r.1 = p → m = n := fun m r hm e => by
    have h1 : (rs.map (·.1))[m]? = some p := by rw [List.getElem?_map, hm]; exact congrArg some e
    have h2 : (rs.map (·.1))[n]? = some p := by rw [List.getElem?_map, h]; rfl
    exact nd_ix z.nd h1 h2
  refine ⟨fun b x e => ?_, fun r hr => ?_, ?_⟩
  · have np : b ≠ p := fun e' => by subst e'; rw [hp.2] at e; cases e
    rw [upd_ne np]; exact z.le b x e
  · obtain ⟨m, hm⟩ := List.mem_iff_getElem?.mp hr
    rw [List.getElem?_set] at hm
    by_cases c : n = m
    · rw [if_pos c] at hm
      split at hm
      · cases hm; exact ⟨upd_same, hp.2⟩
      · cases hm
    · rw [if_neg c] at hm
      have np : r.1 ≠ p := fun e => c (idx m r hm e).symm
      rw [upd_ne np]; exact z.rt r (List.mem_of_getElem? hm)
  · have e : (rs.set n (p, o')).map (·.1) = rs.map (·.1) := by
      rw [List.map_set]
      apply List.ext_getElem?
      intro m
      rw [List.getElem?_set]
      split
      · rename_i c
        subst c
        rw [List.getElem?_map, h]
        have hl : n < (rs.map (·.1)).length := by rw [List.length_map]; exact (List.getElem?_eq_some_iff.mp h).1
        rw [if_pos hl]; rfl
      · rfl
    rw [e]; exact z.nd
theorem Zs.sub {rs rs' : List (Addr × HO)} {H Ho : Hp} (z : Zs rs H Ho) (h : rs'.Sublist rs) : Zs rs' H Ho :=
  ⟨z.le, fun r hr => z.rt r (h.subset hr), (h.map _).nodup z.nd⟩
/-- some of the roots, in any order -/
theorem Zs.re {rs rs' : List (Addr × HO)} {H Ho : Hp} (l amb : List (Addr × HO)) (is : List Nat) (z : Zs rs H Ho) (h1 : rs = l ++ amb := by rfl) (h2 : rs' = (is.filterMap fun i => l[i]?) ++ amb := by rfl) (hn : is.Nodup := by decide) : Zs rs' H Ho := by
  subst h1 h2
  have sub : ∀ r ∈ (is.filterMap fun i => l[i]?), r ∈ l := fun r hr => by
    obtain ⟨i, _, e⟩ := List.mem_filterMap.mp hr
    exact List.mem_of_getElem? e
  refine ⟨z.le, fun r hr => z.rt r ?_, ?_⟩
  · rcases List.mem_append.mp hr with h | h
    · exact List.mem_append.mpr (.inl (sub r h))
    · exact List.mem_append.mpr (.inr h)
  · have nd := z.nd
    rw [List.map_append, List.nodup_append] at nd ⊢
    refine ⟨?_, nd.2.1, fun a ha b hb => ?_⟩
    · rw [List.map_filterMap]
      refine List.Pairwise.filterMap _ (fun i j hij a ha b hb e => ?_) hn
      subst e
      simp only [Option.map_eq_some_iff] at ha hb
      obtain ⟨r, e1, e2⟩ := ha
      obtain ⟨q, e3, e4⟩ := hb
      refine hij (nd_ix nd.1 (show (l.map (·.1))[i]? = some a from ?_) (show (l.map (·.1))[j]? = some a from ?_))
      · rw [List.getElem?_map, e1]; exact congrArg some e2
      · rw [List.getElem?_map, e3]; exact congrArg some e4
    · obtain ⟨r, hr, rfl⟩ := List.mem_map.mp ha
      exact nd.2.2 _ (List.mem_map.mpr ⟨r, sub r hr, rfl⟩) b hb
theorem rt_mem {rs : List (Addr × HO)} {n : Nat} {a : Addr × HO} (h : rs[n]? = some a) : a ∈ rs := List.mem_of_getElem? h
def subN {rs : List (Addr × HO)} (n : Nat) {xs : List (Addr × HO)} (h : xs.drop n = rs) : ∀ r ∈ rs, r ∈ xs := fun r m => List.mem_of_mem_drop (i := n) (h ▸ m)

section
variable {K : PySem.W.Frag} {rs r0 : List (Addr × HO)} {σ : L2.St} {H Ho : Hp} {ta tb tc te : TE} {tt tu : TT} {ts : TA} {Q : VK} {QB : Bool → Hp → Prop} {u t1 t2 : TS} {D : Ends} {v w : V} {i : Nat} {α β γ : Type} [Py α] [Py β] {Φ : γ → Prop} {p : Addr}
theorem frz {ws : List V} {xs : List α} (z : Zs ((p, .lst ws) :: rs) H Ho) (d : DL K Ho ws xs) : ∃ Ho', Same Ho Ho' ∧ Zs rs H Ho' ∧ Z.D K Ho' (.ref p) xs := by
  have e : Same Ho (upd Ho p (.lst ws)) := Same.new z.headN
  exact ⟨_, e, z.freeze, .lst (SqL.of upd_same) (DL.mo d e)⟩
/-- a new list that stands for good at once -/
theorem frzK {Q' : Addr → Hp → Prop} {H' : Hp} {xs : List α} (k : ∀ p Ho', Same Ho Ho' → Zs rs H' Ho' → Z.D K Ho' (.ref p) xs → Q' p H') : ∀ p ws, Zs ((p, .lst ws) :: rs) H' Ho → DL K Ho ws xs → Q' p H' := fun p ws z d => by
  obtain ⟨Ho', e, z', d'⟩ := frz z d
  exact k p Ho' e z' d'
/-! ### expressions -/
theorem y_var (h : σ[i]? = some (some v)) (k : Q v H) : tVar i σ H Q := ⟨v, h, k⟩
theorem y_c (k : Q v H) : tC v σ H Q := k
theorem y_op {r : R2} (k : ta σ H fun x H1 => tb σ H1 fun y H2 => r x y H2 Q) : tOp r ta tb σ H Q := k
theorem y_un {r : V → Hp → VK → Prop} (k : ta σ H fun x H1 => r x H1 Q) : tUn r ta σ H Q := k
theorem y_test (k : te σ H fun x H1 => ∃ c, x = .bl c ∧ QB c H1) : tTest te σ H QB := k
theorem y_tB (k : te σ H fun x H1 => ∃ c, x = .bl c ∧ QB c H1) : tB te σ H QB := k
theorem y_bl {b : Bool} (k : QB b H) : ∃ c, V.bl b = .bl c ∧ QB c H := ⟨b, rfl, k⟩
theorem y_not (k : tt σ H fun c H1 => QB (!c) H1) : tNot tt σ H QB := k
theorem y_notV (k : te σ H fun x H1 => ∃ c, x = .bl c ∧ Q (.bl (!c)) H1) : tNotV te σ H Q := k
theorem y_andV (k : ta σ H fun x H1 => ∃ c, x = .bl c ∧ if c = true then tb σ H1 Q else Q (.bl false) H1) : tAndV ta tb σ H Q := k
theorem y_orV (k : ta σ H fun x H1 => ∃ c, x = .bl c ∧ if c = true then Q (.bl true) H1 else tb σ H1 Q) : tOrV ta tb σ H Q := k
theorem y_and (k : tt σ H fun c H1 => if c = true then tu σ H1 QB else QB false H1) : tAnd tt tu σ H QB := k
theorem y_or (k : tt σ H fun c H1 => if c = true then QB true H1 else tu σ H1 QB) : tOr tt tu σ H QB := k
theorem y_if (k : tt σ H fun c H1 => if c = true then ta σ H1 Q else tb σ H1 Q) : tIf tt ta tb σ H Q := k
theorem y_chain {r r' : R2} (k : ta σ H fun x H1 => tb σ H1 fun y H2 => r x y H2 fun z H3 => ∃ c, z = .bl c ∧ (if c = true then tc σ H3 fun w' H4 => r' y w' H4 Q else Q (.bl false) H3)) : tChain r r' ta tb tc σ H Q := k
theorem y_cb {r : List V → Hp → VK → Prop} (k : ts σ H fun vs H1 => r vs H1 Q) : tCB r ts σ H Q := k
theorem y_nil {QL : List V → Hp → Prop} (k : QL [] H) : tNil σ H QL := k
theorem y_cons {QL : List V → Hp → Prop} (k : ta σ H fun x H1 => ts σ H1 fun xs H2 => QL (x :: xs) H2) : tCons ta ts σ H QL := k
theorem y_lst (k : ts σ H fun xs H1 => xs.length ≤ sizeLine ∧ ∀ p, H1 p = none → Q (.ref p) (upd H1 p (.lst xs))) : tLst ts σ H Q := k
theorem y_tup (k : ts σ H fun xs H1 => xs.length ≤ sizeLine ∧ ∀ p, H1 p = none → Q (.ref p) (upd H1 p (.tup xs))) : tTup ts σ H Q := k
theorem y_sl {r : V → Option Int → Option Int → Hp → VK → Prop} {tl th : TO} (k : te σ H fun x H1 => tl σ H1 fun l H2 => th σ H2 fun u H3 => r x l u H3 Q) : tSl r te tl th σ H Q := k
theorem y_noPart {QO : Option Int → Hp → Prop} (k : QO none H) : tNoPart σ H QO := k
theorem y_part {QO : Option Int → Hp → Prop} (k : te σ H fun x H1 => ∃ i, x = .int i ∧ QO (some i) H1) : tPart te σ H QO := k
theorem y_int {QO : Int → Hp → Prop} {i : Int} (k : QO i H) : ∃ j, V.int i = .int j ∧ QO j H := ⟨i, rfl, k⟩
theorem y_call {sp : Sp} {E : XK} (k : ts σ H fun vs H1 => sp (vs ++ []) H1 Q E) : tCall sp [] E ts σ H Q := k
theorem y_bm {T : String} {r : V → List V → Hp → VK → Prop} (k : te σ H fun x H1 => tyV K T x H1 ∧ ts σ H1 fun xs H2 => r x xs H2 Q) : tBM K T r te ts σ H Q := k
theorem y_bm0 {T : String} {r : V → List V → Hp → VK → Prop} (k : te σ H fun x H1 => tyV K T x H1 ∧ r x [] H1 Q) : tBM0 K T r te σ H Q := k
/-! ### values -/
theorem y_i0 {g : Int → Int → V} {a b : Int} (k : Q (g a b) H) : rI0 g (.int a) (.int b) H Q := ⟨a, b, rfl, rfl, k⟩
theorem y_ig {C : Int → Int → Prop} {g : Int → Int → V} {a b : Int} (c : C a b) (k : Q (g a b) H) : rI C g (.int a) (.int b) H Q := ⟨a, b, rfl, rfl, c, k⟩
theorem y_neg {a : Int} (k : Q (.int (-a)) H) : rU (fun i => .int (-i)) (.int a) H Q := ⟨a, rfl, k⟩
theorem y_eqi {a b : Int} (k : Q (.bl (decide (a = b))) H) : rEq (.int a) (.int b) H Q := ⟨rfl, by
  have e : decide (V.int a = V.int b) = decide (a = b) := by simp
  rw [e]; exact k⟩
theorem y_nei {a b : Int} (k : Q (.bl (!decide (a = b))) H) : rNe (.int a) (.int b) H Q := ⟨rfl, by
  have e : decide (V.int a = V.int b) = decide (a = b) := by simp
  rw [e]; exact k⟩
theorem y_eqb {a b : Bool} (k : Q (.bl (decide (a = b))) H) : rEq (.bl a) (.bl b) H Q := ⟨rfl, by
  have e : decide (V.bl a = V.bl b) = decide (a = b) := by simp
  rw [e]; exact k⟩
theorem y_neb {a b : Bool} (k : Q (.bl (!decide (a = b))) H) : rNe (.bl a) (.bl b) H Q := ⟨rfl, by
  have e : decide (V.bl a = V.bl b) = decide (a = b) := by simp
  rw [e]; exact k⟩
theorem y_eqs {a b : Str} (k : Q (.bl (decide (a = b))) H) : rEq (.str a) (.str b) H Q := ⟨rfl, by
  have e : decide (V.str a = V.str b) = decide (a = b) := by simp
  rw [e]; exact k⟩
theorem y_nes {a b : Str} (k : Q (.bl (!decide (a = b))) H) : rNe (.str a) (.str b) H Q := ⟨rfl, by
  have e : decide (V.str a = V.str b) = decide (a = b) := by simp
  rw [e]; exact k⟩
def eqD {β γ : Type} [Py β] [Py γ] (x : β) (y : γ) : Bool := PyData.eqv (toPy x) (toPy y)
def okD {β : Type} [Py β] (x : β) : Prop := SeqAt.shaped (toPy x) = true
theorem y_eqD {x : α} {y : β} (d1 : Z.D K H v x) (d2 : Z.D K H w y) (hg : okD x ∧ okD y) (k : Q (.bl (eqD x y)) H) : rEqD K v w H Q := ⟨_, _, Dq.dp _ _ d1, Dq.dp _ _ d2, hg.1, hg.2, k⟩
theorem y_neD {x : α} {y : β} (d1 : Z.D K H v x) (d2 : Z.D K H w y) (hg : okD x ∧ okD y) (k : Q (.bl (!eqD x y)) H) : rNeD K v w H Q := ⟨_, _, Dq.dp _ _ d1, Dq.dp _ _ d2, hg.1, hg.2, k⟩
def inD (x : α) (ys : List β) : Bool := ys.any fun y => eqD y x
theorem any_map {x : α} : ∀ {ys : List β}, ((ys.map Py.toPy).any fun z => PyData.eqv z (toPy x)) = inD x ys
  | [] => rfl
  | y :: ys => by
    show (_ || _) = (_ || _)
    rw [any_map]; rfl
theorem y_inD {x : α} {ys : List β} (d1 : Z.D K H v x) (d2 : Z.D K H w ys) (hg : okD x ∧ okD ys) (k : Q (.bl (inD x ys)) H) : rInD K v w H Q := ⟨_, _, Dq.dp _ _ d1, Dq.dp _ _ d2, hg.1, hg.2, by
  have e := any_map (x := x) (ys := ys)
  exact e ▸ k⟩
theorem y_notInD {x : α} {ys : List β} (d1 : Z.D K H v x) (d2 : Z.D K H w ys) (hg : okD x ∧ okD ys) (k : Q (.bl (!inD x ys)) H) : rNotInD K v w H Q := ⟨_, _, Dq.dp _ _ d1, Dq.dp _ _ d2, hg.1, hg.2, by
  have e := any_map (x := x) (ys := ys)
  exact e ▸ k⟩
theorem dec_non {x : Option β} (d : Z.D K H v x) (hg : ∀ b : β, x = some b → toPy b ≠ .none) : decide (v = .non) = x.isNone := by
  cases x with
  | none => cases d; rfl
  | some b =>
    rw [decide_eq_false]
    · rfl
    · intro ev
      subst ev
      have d3 : Dq K H V.non (toPy b) := d
      have nb := hg b rfl
      generalize toPy b = pb at d3 nb
      cases d3
      exact nb rfl
theorem y_isN {x : Option β} (d : Z.D K H v x) (hg : ∀ b : β, x = some b → toPy b ≠ .none) (k : Q (.bl x.isNone) H) : (fun x y H Q => y = .non ∧ Q (.bl (decide (x = .non))) H : R2) v .non H Q := ⟨rfl, by rw [dec_non d hg]; exact k⟩
theorem y_notN {x : Option β} (d : Z.D K H v x) (hg : ∀ b : β, x = some b → toPy b ≠ .none) (k : Q (.bl x.isSome) H) : (fun x y H Q => y = .non ∧ Q (.bl (!decide (x = .non))) H : R2) v .non H Q := ⟨rfl, by
  rw [dec_non d hg, show (!x.isNone) = x.isSome by cases x <;> rfl]; exact k⟩
/-! lists read -/
theorem y_ixL {xs : List α} {i : Int} {f : α → W γ} (d : LV K rs Ho v xs) (z : Zs rs H Ho) (hw : (W.bind (W.opt (atI xs i)) f).run Φ) (k : ∀ t w, Z.D K Ho w t → (f t).run Φ → Q w H) : rIxL K v (.int i) H Q := by
  obtain ⟨p, vs, rfl, d, s⟩ := d.rd z
  obtain ⟨a, ea, hw⟩ := hw
  obtain ⟨w, ew, dw⟩ := DL.at d ea
  exact ⟨p, vs, i, w, rfl, rfl, s, ew, k a w dw hw⟩
theorem y_ixT {x : α} {y : β} {i : Int} (d : Z.D K Ho v x) (z : Zs rs H Ho) (hj : ∃ ds, toPy x = .tuple ds ∧ atI ds i = some (toPy y)) (k : ∀ w, Z.D K Ho w y → Q w H) : rIxT K v (.int i) H Q := by
  obtain ⟨ds, e1, e3⟩ := hj
  have d : Dq K Ho v (toPy x) := d
  rw [e1] at d
  cases d with
  | tup hs ha =>
    have hl := dpAll_len ha
    unfold atI at e3
    rw [← hl] at e3
    cases q : ixN _ i with
    | none => rw [q] at e3; cases e3
    | some j =>
      rw [q] at e3
      obtain ⟨w, ew, dw⟩ := dpAll_get ha e3
      refine ⟨_, _, _, w, rfl, rfl, SqT.of (z.le _ _ hs), ?_, k w dw⟩
      unfold atI
      rw [q]
      exact ew
theorem y_ixTp {xs : Tp α} {i : Int} {f : α → W γ} (d : Z.D K Ho v xs) (z : Zs rs H Ho) (hw : (W.bind (W.opt (atI xs.l i)) f).run Φ) (k : ∀ t w, Z.D K Ho w t → (f t).run Φ → Q w H) : rIxT K v (.int i) H Q := by
  obtain ⟨a, ea, hw⟩ := hw
  cases d with
  | tup hs ha =>
    obtain ⟨w, ew, dw⟩ := DL.at (K := K) (H := Ho) ha ea
    exact ⟨_, _, i, w, rfl, rfl, SqT.of (z.le _ _ hs), ew, k a w dw hw⟩
theorem y_slL {xs : List α} {l h : Option Int} (d : LV K rs Ho v xs) (z : Zs rs H Ho) (k : ∀ H' p ws, Zs ((p, .lst ws) :: rs) H' Ho → DL K Ho ws (Z.cut xs l h) → Q (.ref p) H') : rSlL K v l h H Q := by
  obtain ⟨p, vs, rfl, d, s⟩ := d.rd z
  exact ⟨p, vs, rfl, s, fun q hq => k _ q _ (z.root hq) (DL.cut d l h)⟩
theorem y_cat {xs ys : List α} (d1 : LV K rs Ho v xs) (d2 : LV K rs Ho w ys) (z : Zs rs H Ho) (hg : xs.length + ys.length ≤ sizeLine) (k : ∀ H' p ws, Zs ((p, .lst ws) :: rs) H' Ho → DL K Ho ws (xs ++ ys) → Q (.ref p) H') : rCatS K v w H Q := by
  obtain ⟨p, vs, rfl, d, s⟩ := LV.rd d1 z
  obtain ⟨p', vs', rfl, d', s'⟩ := LV.rd d2 z
  exact ⟨p, p', vs, vs', rfl, rfl, s, s', by rw [d.len, d'.len]; exact hg, fun q hq => k _ _ _ (z.root hq) (d.append d')⟩
theorem rep_dl {vs : List V} {xs : List α} (d : DL K Ho vs xs) (n : Nat) : DL K Ho (List.replicate n vs).flatten (List.replicate n xs).flatten := by
  induction n with
  | zero => exact .nil
  | succ n ih =>
    rw [List.replicate_succ, List.flatten_cons, List.replicate_succ, List.flatten_cons]
    exact d.append ih
def repG {α : Type} (xs : List α) (k : Int) : Prop := -(2 ^ 63) ≤ k ∧ k < 2 ^ 63 ∧ xs.length * k.toNat ≤ sizeLine
def repL {α : Type} (xs : List α) (k : Int) : List α := (List.replicate k.toNat xs).flatten
/-- the new list xs, repeated -/
theorem y_rep {ws : List V} {xs : List α} {n : Int} (z : Zs ((p, .lst ws) :: rs) H Ho) (d : DL K Ho ws xs) (hg : repG xs n) (k : ∀ H' q ws', Zs ((q, .lst ws') :: rs) H' Ho → DL K Ho ws' (repL xs n) → Q (.ref q) H') : rRep (.ref p) (.int n) H Q :=
  ⟨p, n, ws, rfl, rfl, z.head, hg.1, hg.2.1, by rw [DL.len d]; exact hg.2.2, fun q hq => k _ q _ (z.root hq).sw1.tail (rep_dl d _)⟩
theorem y_lstk {vs : List V} {xs : List α} (z : Zs rs H Ho) (d : DL K Ho vs xs) (hl : vs.length ≤ sizeLine) (k : ∀ H' p ws, Zs ((p, .lst ws) :: rs) H' Ho → DL K Ho ws xs → Q (.ref p) H') : vs.length ≤ sizeLine ∧ ∀ p, H p = none → Q (.ref p) (upd H p (.lst vs)) :=
  ⟨hl, fun p hp => k _ p _ (z.root hp) d⟩
theorem y_tupk {vs : List V} {x : α} (z : Zs rs H Ho) (hl : vs.length ≤ sizeLine) (ds : List PyData) (hx : toPy x = .tuple ds) (d : DqAll K Ho vs ds) (k : ∀ p H' Ho', Same Ho Ho' → Zs rs H' Ho' → Z.D K Ho' (.ref p) x → Q (.ref p) H') :
    vs.length ≤ sizeLine ∧ ∀ p, H p = none → Q (.ref p) (upd H p (.tup vs)) :=
  ⟨hl, fun p hp => by
    have e3 : Same Ho (upd Ho p (.tup vs)) := Same.new (z.free hp)
    refine k p _ _ e3 (z.alloc hp) ?_
    show Dq K _ _ (toPy x)
    rw [hx]
    exact .tup upd_same (dpAll_mono e3 _ _ d)⟩
/-! ### statements -/
theorem y_asg (σ' : V → L2.St) (hσ : ∀ v, σ.set i (some v) = σ' v) (k : te σ H fun v H1 => u D (σ' v) H1) : tSeq (tAsg te (gName i)) u D σ H := by
  have e : (fun v H1 => u D (σ' v) H1) = fun v H1 => u D (σ.set i (some v)) H1 := by funext v H1; rw [hσ]
  rw [e] at k
  exact k
theorem y_asgG {g : TG} (k : te σ H fun v H1 => g v σ H1 fun σ' H' => u D σ' H') : tSeq (tAsg te g) u D σ H := k
theorem y_drop (k : te σ H fun _ H1 => u D σ H1) : tSeq (tDrop te) u D σ H := k
theorem y_ret (k : te σ H D.rt) : tSeq (tRet te) u D σ H := k
theorem y_retN (k : D.rt .non H) : tSeq tRetN u D σ H := k
theorem y_doc (k : u D σ H) : tSeq tNext u D σ H := k
theorem y_ifS (k : tt σ H fun b H1 => if b = true then t1 { D with nx := u D } σ H1 else t2 { D with nx := u D } σ H1) : tSeq (tIfS tt t1 t2) u D σ H := k
theorem y_cases {A B : W γ} {b : Bool} {X Y : Prop} (hw : (W.ite b A B).run Φ) (h1 : b = true → A.run Φ → X) (h2 : b = false → B.run Φ → Y) : if b = true then X else Y := by
  cases b with
  | true => exact iteT (h1 rfl (hw.1 rfl))
  | false => exact iteF (h2 rfl (hw.2 rfl))
theorem y_nx (k : D.nx σ H) : tNext D σ H := k
theorem run_ret {β : Type} {a : β} {Φ : β → Prop} (h : (W.ret a).run Φ) : Φ a := h
/-- a value gets a name -/
theorem y_let {e : β} {f : β → W γ} {G : Prop} (hw : (W.bind (W.ret e) f).run Φ) (P : β → Prop) (hp : P e) (k : ∀ x, P x → (f x).run Φ → G) : G := k e hp hw
theorem y_letI {e : Int} {f : Int → W γ} {G : V → Hp → Prop} (hw : (W.bind (W.ret e) f).run Φ) (k : ∀ x, (f x).run Φ → G (.int x) H) : G (.int e) H := k e hw
theorem y_letB {e : Bool} {f : Bool → W γ} {G : V → Hp → Prop} (hw : (W.bind (W.ret e) f).run Φ) (k : ∀ x, (f x).run Φ → G (.bl x) H) : G (.bl e) H := k e hw
theorem y_letS {e : Str} {f : Str → W γ} {G : V → Hp → Prop} (hw : (W.bind (W.ret e) f).run Φ) (k : ∀ x, (f x).run Φ → G (.str x) H) : G (.str e) H := k e hw
def apd {α : Type} (xs : List α) (x : α) : W (List α) := W.guard (xs.length < sizeLine) (W.ret (xs ++ [x]))
def exd {α : Type} (xs ys : List α) : W (List α) := W.guard (xs.length + ys.length ≤ sizeLine) (W.ret (xs ++ ys))
def sti {α : Type} (xs : List α) (i : Int) (y : α) : W (List α) := W.bind (W.opt (ixN xs.length i)) fun j => W.ret (xs.set j y)
theorem y_tyL {R : Prop} {n : Nat} {ws : List V} (z : Zs rs H Ho) (hn : rs[n]? = some (p, .lst ws)) (k : R) : tyV K "list" (.ref p) H ∧ R := ⟨.inl ⟨rfl, _, SqL.of (z.rt _ (List.mem_of_getElem? hn)).1⟩, k⟩
theorem y_app {n : Nat} {ws : List V} {xs : List α} {x : α} {f : List α → W γ} (z : Zs rs H Ho) (hn : rs[n]? = some (p, .lst ws)) (d : DL K Ho ws xs) (dx : Z.D K Ho w x) (hw : (W.bind (apd xs x) f).run Φ) (k : ∀ xs' ws' H', Zs (rs.set n (p, .lst ws')) H' Ho → DL K Ho ws' xs' → (f xs').run Φ → Q .non H') : rAppend (.ref p) [w] H Q := by
  have hp := z.rt _ (List.mem_of_getElem? hn)
  exact ⟨p, ws, w, rfl, rfl, hp.1, by rw [DL.len d]; exact hw.1, k _ _ _ (z.putI hn) (d.push dx) hw.2⟩
theorem y_ext {n m : Nat} {ws us : List V} {q : Addr} {xs ys : List α} {f : List α → W γ} (z : Zs rs H Ho) (hn : rs[n]? = some (p, .lst ws)) (hm : rs[m]? = some (q, .lst us)) (d : DL K Ho ws xs) (dx : DL K Ho us ys) (hw : (W.bind (exd xs ys) f).run Φ) (k : ∀ xs' ws' H', Zs (rs.set n (p, .lst ws')) H' Ho → DL K Ho ws' xs' → (f xs').run Φ → Q .non H') : rExtend (.ref p) [.ref q] H Q := by
  have hp := z.rt _ (List.mem_of_getElem? hn)
  have hq := z.rt _ (List.mem_of_getElem? hm)
  exact ⟨p, q, ws, us, rfl, rfl, hp.1, hq.1, by rw [DL.len d, DL.len dx]; exact hw.1, k _ _ _ (z.putI hn) (d.append dx) hw.2⟩
/-- xs.pop() -/
def popL {α : Type} (xs : List α) : W α := W.opt xs[xs.length - 1]?
theorem dpAll_dropLast {vs : List V} {ds : List PyData} (h : DqAll K H vs ds) : DqAll K H vs.dropLast ds.dropLast := by
  have hl := dpAll_len h
  rw [List.dropLast_eq_take, List.dropLast_eq_take, hl]
  exact dpAll_take h _
theorem y_pop {n : Nat} {ws : List V} {xs : List α} {f : α → W γ} (z : Zs rs H Ho) (hn : rs[n]? = some (p, .lst ws)) (d : DL K Ho ws xs) (hw : (W.bind (popL xs) f).run Φ) (k : ∀ t w ws' H', Zs (rs.set n (p, .lst ws')) H' Ho → DL K Ho ws' xs.dropLast → Z.D K Ho w t → (f t).run Φ → Q w H') : rPop (.ref p) [] H Q := by
  have hp := z.rt _ (List.mem_of_getElem? hn)
  obtain ⟨t, et, hw⟩ := hw
  rw [← DL.len d] at et
  obtain ⟨w, ew, dw⟩ := DL.get d et
  refine ⟨p, ws, w, rfl, rfl, hp.1, ew, k t w _ _ (z.putI hn) ?_ dw hw⟩
  show DqAll _ _ _ (xs.dropLast.map Py.toPy)
  rw [List.map_dropLast]
  exact dpAll_dropLast d
/-- xs.pop(i) -/
def popI {α : Type} (xs : List α) (i : Int) : W (α × List α) := W.guard (-(2 ^ 63) ≤ i ∧ i < 2 ^ 63) (W.bind (W.opt (ixN xs.length i)) fun j => W.bind (W.opt xs[j]?) fun x => W.ret (x, xs.eraseIdx j))
theorem ixN_seq {n : Nat} {i : Int} {j : Nat} (h : ixN n i = some j) : seqIndex? i n = some j := by
  unfold ixN at h
  by_cases c : 0 ≤ i
  · rw [if_pos c] at h
    split at h
    · rename_i hl
      have e : i.toNat = j := Option.some.inj h
      rw [seqIndex_of c (by omega)]
      exact h
    · cases h
  · rw [if_neg c] at h
    split at h
    · rename_i hl
      rw [seqIndex_neg (by omega) (by omega)]
      rw [← h]
    · cases h
theorem dpAll_erase {vs : List V} {ds : List PyData} (h : DqAll K H vs ds) (j : Nat) : DqAll K H (vs.eraseIdx j) (ds.eraseIdx j) := by
  induction vs generalizing ds j with
  | nil => cases h; exact .nil
  | cons u vs ih =>
    cases h with
    | cons h1 h2 =>
      cases j with
      | zero => exact h2
      | succ j => exact .cons h1 (ih h2 j)
theorem map_erase {α β : Type} (f : α → β) : ∀ (xs : List α) (j : Nat), (xs.eraseIdx j).map f = (xs.map f).eraseIdx j
  | [], _ => rfl
  | x :: xs, 0 => rfl
  | x :: xs, j + 1 => by simp [map_erase f xs j]
theorem y_popI {n : Nat} {ws : List V} {xs : List α} {i : Int} {f : α × List α → W γ} (z : Zs rs H Ho) (hn : rs[n]? = some (p, .lst ws)) (d : DL K Ho ws xs) (hw : (W.bind (popI xs i) f).run Φ) (k : ∀ t xs' w ws' H', Zs (rs.set n (p, .lst ws')) H' Ho → DL K Ho ws' xs' → Z.D K Ho w t → (f (t, xs')).run Φ → Q w H') : rPopAt (.ref p) [.int i] H Q := by
  have hp := z.rt _ (List.mem_of_getElem? hn)
  obtain ⟨⟨g1, g2⟩, j, ej, t, et, hw⟩ := hw
  obtain ⟨w, ew, dw⟩ := DL.get d et
  refine ⟨p, ws, i, j, w, rfl, rfl, hp.1, g1, g2, ixN_seq (by rw [DL.len d]; exact ej), ew, k t _ w _ _ (z.putI hn) ?_ dw hw⟩
  show DqAll _ _ _ ((xs.eraseIdx j).map Py.toPy)
  rw [map_erase]
  exact dpAll_erase d j
theorem y_gsub {to ti : TE} {t : TSet} {QS : L2.St → Hp → Prop} (k : to σ H fun o H1 => ti σ H1 fun i H2 => t o i v H2 fun H3 => QS σ H3) : gSub to ti t v σ H QS := k
theorem y_sti {n : Nat} {ws : List V} {xs : List α} {x : α} {i : Int} {QH : Hp → Prop} {f : List α → W γ} (z : Zs rs H Ho) (hn : rs[n]? = some (p, .lst ws)) (d : DL K Ho ws xs) (dx : Z.D K Ho w x) (hw : (W.bind (sti xs i x) f).run Φ) (k : ∀ xs' ws' H', Zs (rs.set n (p, .lst ws')) H' Ho → DL K Ho ws' xs' → (f xs').run Φ → QH H') : rSetL (.ref p) (.int i) w H QH := by
  have hp := z.rt _ (List.mem_of_getElem? hn)
  obtain ⟨j, ej, hw⟩ := hw
  exact ⟨p, ws, i, j, rfl, rfl, hp.1, by rw [DL.len d]; exact ej, k _ _ _ (z.putI hn) (DL.set d dx j) hw⟩
theorem y_augS {to ti : TE} {tget : V → V → Hp → VK → Prop} {tip : TIp} {tset : TSet} (k : to σ H fun o H1 => ti σ H1 fun i H2 => tget o i H2 fun x H3 => te σ H3 fun y H4 => tip x y H4 fun z H5 => tset o i z H5 fun H6 => u D σ H6) : tSeq (tAugS to ti te tget tip tset) u D σ H := k
theorem y_ip {f : Int → Int → Int} {a b : Int} (k : Q (.int (f a b)) H) : ipI f (.int a) (.int b) H Q := ⟨a, b, rfl, rfl, k⟩
theorem y_aug (σ' : V → L2.St) {tip : TIp} (h : σ[i]? = some (some v)) (hσ : ∀ v, σ.set i (some v) = σ' v) (k : te σ H fun y H1 => tip v y H1 fun z H2 => u D (σ' z) H2) : tSeq (tAug i te tip) u D σ H := by
  have e : (fun z H2 => u D (σ' z) H2) = fun z H2 => u D (σ.set i (some z)) H2 := by funext v H1; rw [hσ]
  refine ⟨v, h, ?_⟩
  rw [e] at k
  exact k
end
end Z

/-! # Y2: what is walked, loops, comprehensions, joins, errors, built-ins -/
namespace Z
open PySem PySem.Spec PyProof.Rows L2

/-! ### what is walked -/
def rng (a b : Int) : List Int := (List.range (b - a).toNat).map fun k : Nat => a + k
def rngD (a b : Int) : List Int := (List.range (a - b).toNat).map fun k : Nat => a - k
def enumZ {α : Type} (xs : List α) : List (Int × α) := (rng 0 xs.length).zip xs
def enumS {α : Type} (n : Int) (xs : List α) : List (Int × α) := (rng n (n + xs.length)).zip xs
def rngOk (a b : Int) : Prop := -(2 ^ 62) ≤ a ∧ a < 2 ^ 62 ∧ -(2 ^ 62) ≤ b ∧ b < 2 ^ 62
/-- the turns of an iterator, by the items' data -/
def Trn {α : Type} [Py α] (K : PySem.W.Frag) (r0 : List (Addr × HO)) (J : It) (xs : List α) (Ho2 : Hp) : Prop :=
  ∀ i rs' H' Ho', Same Ho2 Ho' → Zs rs' H' Ho' → (∀ r ∈ r0, r ∈ rs') → (∀ a, xs[i]? = some a → J.go i H' ∧ ∀ x H'', J.yld i H' x H'' → ∃ Ho'', Same Ho' Ho'' ∧ (∀ rs, Zs rs H' Ho' → Zs rs H'' Ho'') ∧ D K Ho'' x a) ∧ (xs.length ≤ i → J.stop i H')
section
variable {K : PySem.W.Frag} {rs r0 : List (Addr × HO)} {σ : L2.St} {H Ho : Hp} {ta tb tc te tl : TE} {tt tu : TT} {α β γ : Type} [Py α] [Py β] {p : Addr} {Φ : γ → Prop} {R : It → Hp → Prop} {v u : V}
theorem src_stay {q : Addr} {ys : List V} {rs' : List (Addr × HO)} {H Ho' : Hp} (s : SqL K Ho q ys ∨ (q, HO.lst ys) ∈ rs) (e : Same Ho Ho') (z : Zs rs' H Ho') (sub : ∀ r ∈ rs, r ∈ rs') : SqL K H q ys := by
  rcases s with s | s
  · exact z.le.seq (e.seq s)
  · exact SqL.of (z.rt _ (sub _ s)).1
theorem trn_list {q : Addr} {xs : List α} {v : V} (h : LV K r0 Ho v xs) (hv : v = .ref q) : Trn K r0 (Itl K q) xs Ho := by
  intro i rs' H' Ho' e z sub
  obtain ⟨q', ys, rfl, d, s⟩ := h
  cases hv
  have sq : SqL K H' q ys := src_stay s e z sub
  refine ⟨fun a ha => ?_, fun hl => ⟨ys, sq, by rw [d.len]; exact hl⟩⟩
  obtain ⟨w, ew, dw⟩ := d.get ha
  refine ⟨⟨ys, w, sq, ew⟩, fun x H'' y => ?_⟩
  obtain ⟨rfl, y⟩ := y
  have ex : x = w := Option.some.inj ((y _ sq).symm.trans ew)
  subst ex
  exact ⟨Ho', Same.refl _, fun _ z => z, D.mo dw e⟩
theorem y_iList (k : te σ H fun x H1 => ∃ a, x = .ref a ∧ (∃ xs, SqL K H1 a xs) ∧ R (Itl K a) H1) : iList K te σ H R := k
theorem y_srcL {xs : List α} (d : LV K r0 Ho v xs) (hs : ∀ r ∈ r0, r ∈ rs) (z : Zs rs H Ho) (k : ∀ J, Trn K r0 J xs Ho → R J H) : ∃ a, v = .ref a ∧ (∃ ys, SqL K H a ys) ∧ R (Itl K a) H := by
  obtain ⟨q, ys, rfl, dd, s⟩ := id d
  exact ⟨q, rfl, ⟨ys, src_stay s (Same.refl _) z hs⟩, k _ (trn_list d rfl)⟩
theorem trn_tup {q : Addr} {xs : List α} {ys : List V} (s : Ho q = some (.tup ys)) (d : DL K Ho ys xs) : Trn K [] (Itt K q) xs Ho := by
  intro i rs' H' Ho' e z sub
  have sq : SqT K H' q ys := SqT.of (z.le _ _ (e _ _ s))
  refine ⟨fun a ha => ?_, fun hl => ⟨ys, sq, by rw [d.len]; exact hl⟩⟩
  obtain ⟨w, ew, dw⟩ := d.get ha
  refine ⟨⟨ys, w, sq, ew⟩, fun x H'' y => ?_⟩
  obtain ⟨rfl, y⟩ := y
  have ex : x = w := Option.some.inj ((y _ sq).symm.trans ew)
  subst ex
  exact ⟨Ho', Same.refl _, fun _ z => z, D.mo dw e⟩
theorem y_iTup (k : te σ H fun x H1 => ∃ a, x = .ref a ∧ (∃ xs, SqT K H1 a xs) ∧ R (Itt K a) H1) : iTup K te σ H R := k
/-- over a tuple of things of one kind -/
theorem y_srcT {x : β} {xs : List α} (d : D K Ho v x) (hf : toPy x = .tuple (xs.map Py.toPy)) (z : Zs rs H Ho) (k : ∀ J, Trn K [] J xs Ho → R J H) : ∃ a, v = .ref a ∧ (∃ ys, SqT K H a ys) ∧ R (Itt K a) H := by
  have d : Dq K Ho v (toPy x) := d
  rw [hf] at d
  cases d with
  | tup hs ha => exact ⟨_, rfl, ⟨_, SqT.of (z.le _ _ hs)⟩, k _ (trn_tup hs ha)⟩
theorem rng_get {a b : Int} {i : Nat} {x : Int} (h : (rng a b)[i]? = some x) : i < (b - a).toNat ∧ x = a + i := by
  unfold rng at h
  rw [List.getElem?_map] at h
  cases e : (List.range (b - a).toNat)[i]? with
  | none => rw [e] at h; cases h
  | some k =>
    rw [e] at h
    obtain ⟨hl, ek⟩ := List.getElem?_eq_some_iff.mp e
    rw [List.getElem_range] at ek
    subst ek
    rw [List.length_range] at hl
    exact ⟨hl, (Option.some.inj h).symm⟩
theorem rng_len {a b : Int} : (rng a b).length = (b - a).toNat := by unfold rng; simp
theorem trn_range {a b : Int} : Trn K [] (Itr a (b - a).toNat) (rng a b) Ho := by
  intro i rs' H' Ho' e z sub
  refine ⟨fun x hx => ?_, fun hl => ?_⟩
  · obtain ⟨hi, rfl⟩ := rng_get hx
    refine ⟨hi, fun y H'' yy => ?_⟩
    obtain ⟨rfl, rfl⟩ := yy
    exact ⟨Ho', Same.refl _, fun _ z => z, .int _⟩
  · rw [rng_len] at hl
    exact hl
theorem y_iR1 {ts : TA} (k : ts σ H fun vs H1 => ∃ j : Int, vs = [.int j] ∧ -(2 ^ 62) ≤ j ∧ j < 2 ^ 62 ∧ R (Itr 0 j.toNat) H1) : iRng1 ts σ H R := k
theorem y_iR2 {ts : TA} (k : ts σ H fun vs H1 => ∃ i j : Int, vs = [.int i, .int j] ∧ (-(2 ^ 62) ≤ i ∧ i < 2 ^ 62 ∧ -(2 ^ 62) ≤ j ∧ j < 2 ^ 62) ∧ R (Itr i (j - i).toNat) H1) : iRng2 ts σ H R := k
theorem y_srcR1 {n : Int} (hg : rngOk 0 n) (k : ∀ J, Trn K [] J (rng 0 n) Ho → R J H) : ∃ j : Int, [V.int n] = [.int j] ∧ -(2 ^ 62) ≤ j ∧ j < 2 ^ 62 ∧ R (Itr 0 j.toNat) H := by
  refine ⟨n, rfl, hg.2.2.1, hg.2.2.2, ?_⟩
  have e : n.toNat = (n - 0).toNat := by rw [Int.sub_zero]
  rw [e]
  exact k _ trn_range
theorem y_srcR2 {a b : Int} (hg : rngOk a b) (k : ∀ J, Trn K [] J (rng a b) Ho → R J H) : ∃ i j : Int, [V.int a, V.int b] = [.int i, .int j] ∧ (-(2 ^ 62) ≤ i ∧ i < 2 ^ 62 ∧ -(2 ^ 62) ≤ j ∧ j < 2 ^ 62) ∧ R (Itr i (j - i).toNat) H :=
  ⟨a, b, rfl, hg, k _ trn_range⟩
theorem trn_rangeD {a b : Int} : Trn K [] (Itc a (-1) (a - b).toNat) (rngD a b) Ho := by
  intro i rs' H' Ho' e z sub
  refine ⟨fun x hx => ?_, fun hl => ?_⟩
  · unfold rngD at hx
    rw [List.getElem?_map] at hx
    cases q : (List.range (a - b).toNat)[i]? with
    | none => rw [q] at hx; cases hx
    | some k =>
      rw [q] at hx
      obtain ⟨hl, ek⟩ := List.getElem?_eq_some_iff.mp q
      rw [List.getElem_range] at ek
      subst ek
      rw [List.length_range] at hl
      have ex : x = a - i := (Option.some.inj hx).symm
      subst ex
      refine ⟨hl, fun y H'' yy => ?_⟩
      obtain ⟨rfl, rfl⟩ := yy
      have q2 : a + (i : Int) * -1 = a - i := by omega
      rw [q2]
      exact ⟨Ho', Same.refl _, fun _ z => z, .int _⟩
  · unfold rngD at hl
    rw [List.length_map, List.length_range] at hl
    exact hl
theorem trn_zip {a b : Addr} {xs : List α} {ys : List β} {v u : V} (h : LV K r0 Ho v xs) (hv : v = .ref a) (h' : LV K r0 Ho u ys) (hu : u = .ref b) : Trn K r0 (Itz K a b) (xs.zip ys) Ho := by
  intro i rs' H' Ho' e z sub
  obtain ⟨a', vs, rfl, d, s⟩ := h
  obtain ⟨b', us, rfl, d', s'⟩ := h'
  cases hv
  cases hu
  have sa : SqL K H' a vs := src_stay s e z sub
  have sb : SqL K H' b us := src_stay s' e z sub
  refine ⟨fun p hp => ?_, fun hl => ⟨vs, us, sa, sb, ?_⟩⟩
  · obtain ⟨hx, hy⟩ := List.getElem?_zip_eq_some.mp hp
    obtain ⟨x, ex, dx⟩ := d.get hx
    obtain ⟨y, ey, dy⟩ := d'.get hy
    refine ⟨⟨vs, us, x, y, sa, sb, ex, ey⟩, fun t H'' yy => ?_⟩
    obtain ⟨T, x', y', rfl, hT, rfl, qx, qy⟩ := yy
    have e1 : x' = x := Option.some.inj ((qx _ sa).symm.trans ex)
    have e2 : y' = y := Option.some.inj ((qy _ sb).symm.trans ey)
    subst e1 e2
    have e3 : Same Ho' (upd Ho' T (.tup [x', y'])) := Same.new (z.free hT)
    exact ⟨_, e3, fun _ z => z.alloc hT, .tup upd_same (.cons (D.mo (D.mo dx e) e3) (.cons (D.mo (D.mo dy e) e3) .nil))⟩
  · rw [List.length_zip] at hl
    rw [d.len, d'.len]
    omega
theorem trn_enum {a : Addr} {xs : List α} {v : V} (h : LV K r0 Ho v xs) (hv : v = .ref a) : Trn K r0 (Ite K a) (enumZ xs) Ho := by
  intro i rs' H' Ho' e z sub
  obtain ⟨a', vs, rfl, d, s⟩ := h
  cases hv
  have sa : SqL K H' a vs := src_stay s e z sub
  refine ⟨fun p hp => ?_, fun hl => ⟨vs, sa, ?_⟩⟩
  · obtain ⟨hx, hy⟩ := List.getElem?_zip_eq_some.mp hp
    obtain ⟨_, hx⟩ := rng_get hx
    obtain ⟨y, ey, dy⟩ := d.get hy
    refine ⟨⟨vs, y, sa, ey⟩, fun t H'' yy => ?_⟩
    obtain ⟨T, y', rfl, hT, rfl, qy⟩ := yy
    have e2 : y' = y := Option.some.inj ((qy _ sa).symm.trans ey)
    subst e2
    have e3 : Same Ho' (upd Ho' T (.tup [.int (i : Nat), y'])) := Same.new (z.free hT)
    obtain ⟨p1, p2⟩ := p
    dsimp only at hx
    rw [Int.zero_add] at hx
    subst hx
    exact ⟨_, e3, fun _ z => z.alloc hT, .tup upd_same (.cons (.int _) (.cons (D.mo (D.mo dy e) e3) .nil))⟩
  · unfold enumZ at hl
    rw [List.length_zip, rng_len] at hl
    rw [d.len]
    omega
theorem trn_rev {a : Addr} {xs : List α} {v : V} (h : LV K r0 Ho v xs) (hv : v = .ref a) : Trn K r0 (Itv K a xs.length) xs.reverse Ho := by
  intro i rs' H' Ho' e z sub
  obtain ⟨a', vs, rfl, d, s⟩ := h
  cases hv
  have sa : SqL K H' a vs := src_stay s e z sub
  have hl := d.len
  refine ⟨fun p hp => ?_, fun hl => by rw [List.length_reverse] at hl; exact hl⟩
  have hi : i < xs.length := by
    have := (List.getElem?_eq_some_iff.mp hp).1
    rwa [List.length_reverse] at this
  rw [List.getElem?_reverse hi] at hp
  obtain ⟨x, ex, dx⟩ := d.get hp
  refine ⟨⟨hi, vs, x, sa, ex⟩, fun t H'' yy => ?_⟩
  obtain ⟨rfl, qx⟩ := yy
  have e1 : t = x := Option.some.inj ((qx _ sa).symm.trans ex)
  subst e1
  exact ⟨Ho', Same.refl _, fun _ z => z, D.mo dx e⟩
section
variable {ts : TA}
theorem y_iR3 (k : ts σ H fun vs H1 => ∃ (a b c : Int) (n : Nat), vs = [.int a, .int b, .int c] ∧ RgC a b c n ∧ R (Itc a c n) H1) : iRng3 ts σ H R := k
theorem y_srcR3 {a b : Int} (hg : rngOk b a) (k : ∀ J, Trn K [] J (rngD a b) Ho → R J H) : ∃ (a' b' c : Int) (n : Nat), [V.int a, V.int b, V.int (-1)] = [.int a', .int b', .int c] ∧ RgC a' b' c n ∧ R (Itc a' c n) H :=
  ⟨a, b, -1, _, rfl, RgC.neg hg.2.2.1 hg.2.2.2 hg.1 hg.2.1, k _ trn_rangeD⟩
theorem y_iZip (k : ts σ H fun vs H1 => ∃ a b xs ys, vs = [.ref a, .ref b] ∧ SqL K H1 a xs ∧ SqL K H1 b ys ∧ R (Itz K a b) H1) : iZip K ts σ H R := k
theorem y_srcZ {xs : List α} {ys : List β} (d : LV K r0 Ho v xs) (d' : LV K r0 Ho u ys) (hs : ∀ r ∈ r0, r ∈ rs) (z : Zs rs H Ho) (k : ∀ J, Trn K r0 J (xs.zip ys) Ho → R J H) : ∃ a b xs ys, [v, u] = [.ref a, .ref b] ∧ SqL K H a xs ∧ SqL K H b ys ∧ R (Itz K a b) H := by
  obtain ⟨a', vs, rfl, dd, s⟩ := id d
  obtain ⟨b', us, rfl, dd', s'⟩ := id d'
  exact ⟨a', b', vs, us, rfl, src_stay s (Same.refl _) z hs, src_stay s' (Same.refl _) z hs, k _ (trn_zip d rfl d' rfl)⟩
theorem y_iEnum (k : ts σ H fun vs H1 => ∃ a xs, vs = [.ref a] ∧ SqL K H1 a xs ∧ R (Ite K a) H1) : iEnum K ts σ H R := k
theorem y_srcE {xs : List α} (d : LV K r0 Ho v xs) (hs : ∀ r ∈ r0, r ∈ rs) (z : Zs rs H Ho) (k : ∀ J, Trn K r0 J (enumZ xs) Ho → R J H) : ∃ a xs, [v] = [.ref a] ∧ SqL K H a xs ∧ R (Ite K a) H := by
  obtain ⟨a', vs, rfl, dd, s⟩ := id d
  exact ⟨a', vs, rfl, src_stay s (Same.refl _) z hs, k _ (trn_enum d rfl)⟩
theorem y_iRev (k : ts σ H fun vs H1 => ∃ a xs, vs = [.ref a] ∧ SqL K H1 a xs ∧ R (Itv K a xs.length) H1) : iRev K ts σ H R := k
theorem y_srcV {xs : List α} (d : LV K r0 Ho v xs) (hs : ∀ r ∈ r0, r ∈ rs) (z : Zs rs H Ho) (k : ∀ J, Trn K r0 J xs.reverse Ho → R J H) : ∃ a xs, [v] = [.ref a] ∧ SqL K H a xs ∧ R (Itv K a xs.length) H := by
  obtain ⟨a', vs, rfl, dd, s⟩ := id d
  exact ⟨a', vs, rfl, src_stay s (Same.refl _) z hs, by rw [dd.len]; exact k _ (trn_rev d rfl)⟩
end
/-! ### loops -/
theorem drop_cons {γ : Type} {xs : List γ} {i : Nat} {x : γ} (h : xs[i]? = some x) : xs.drop i = x :: xs.drop (i + 1) := by
  obtain ⟨hi, e⟩ := List.getElem?_eq_some_iff.mp h
  rw [List.drop_eq_getElem_cons hi, e]
def ForG (g : TG) (tb u : TS) (D : Ends) (σ : L2.St) (J : It) (H1 : Hp) : Prop := ∃ W : Nat → Nat → L2.St → Hp → Prop, (∃ m, W 0 m σ H1) ∧ ∀ i m σ H, W i m σ H →
  (J.stop i H ∧ u D σ H) ∨ (J.go i H ∧ ∃ N : L2.St → Hp → Prop, (∀ σ' H', N σ' H' → ∃ m', m' < m ∧ W (i + 1) m' σ' H') ∧ ∀ x H', J.yld i H x H' → g x σ H' fun σ2 H2 => tb { D with nx := N, ct := N, bk := u D } σ2 H2)
variable {g : TG} {u1 tb' : TS} {D : Ends}
theorem y_for {wi_ : TI} (k : wi_ σ H fun J H1 => ForG g tb' u1 D σ J H1) : tSeq (tFor wi_ g tb') u1 D σ H := k
theorem y_forL {S : Type} {J : It} {xs : List α} {s0 : S} {body : α → S → W S} {f : S → W γ} (T : Trn K r0 J xs Ho) (hw : (W.bind (W.forL xs s0 body) f).run Φ) (I : S → L2.St → Hp → Hp → Prop) (i0 : I s0 σ H Ho)
    (hz : ∀ s σ' H' Ho', I s σ' H' Ho' → ∃ rs', Zs rs' H' Ho' ∧ ∀ r ∈ r0, r ∈ rs')
    (im : ∀ s σ' H' Ho' H'' Ho'', I s σ' H' Ho' → Same Ho' Ho'' → (∀ rs, Zs rs H' Ho' → Zs rs H'' Ho'') → I s σ' H'' Ho'')
    (step : ∀ a x s σ' H' Ho' (N : L2.St → Hp → Prop), Same Ho Ho' → I s σ' H' Ho' → Z.D K Ho' x a → (body a s).run (fun s' => ∀ σ'' H'' Ho'', Same Ho' Ho'' → I s' σ'' H'' Ho'' → N σ'' H'') → g x σ' H' fun σ2 H2 => tb' { D with nx := N, ct := N, bk := u1 D } σ2 H2)
    (done : ∀ s σ' H' Ho', Same Ho Ho' → I s σ' H' Ho' → (f s).run Φ → u1 D σ' H') : ForG g tb' u1 D σ J H := by
  refine ⟨fun i m σ' H' => m = xs.length - i ∧ i ≤ xs.length ∧ ∃ s Ho', Same Ho Ho' ∧ I s σ' H' Ho' ∧ (W.bind (W.forL (xs.drop i) s body) f).run Φ, ⟨xs.length, by simp, Nat.zero_le _, s0, Ho, Same.refl _, i0, hw⟩, ?_⟩
  rintro i m σ' H' ⟨rfl, hi, s, Ho', e', hI, hw⟩
  obtain ⟨rs', z', sub⟩ := hz s σ' H' Ho' hI
  have tr := T i rs' H' Ho' e' z' sub
  by_cases hlt : i < xs.length
  · refine .inr ?_
    have hxi := List.getElem?_eq_getElem hlt
    obtain ⟨go, yl⟩ := tr.1 _ hxi
    rw [drop_cons hxi] at hw
    refine ⟨go, fun σ'' H'' => ∃ s' Ho'', Same Ho Ho'' ∧ I s' σ'' H'' Ho'' ∧ (W.bind (W.forL (xs.drop (i + 1)) s' body) f).run Φ, fun σ'' H'' hN => ⟨xs.length - (i + 1), by omega, rfl, hlt, hN⟩, fun x H'' y => ?_⟩
    obtain ⟨Ho3, e3, z3, dx⟩ := yl x H'' y
    refine step _ x s σ' H'' Ho3 _ (e'.trans e3) (im _ _ _ _ _ _ hI e3 z3) dx ?_
    exact W.mono _ _ _ (fun s' hs' σ4 H4 Ho4 e4 hI4 => ⟨s', Ho4, (e'.trans e3).trans e4, hI4, hs'⟩) (show (body xs[i] s).run (fun s' => (W.bind (W.forL (xs.drop (i + 1)) s' body) f).run Φ) from hw)
  · have e : i = xs.length := by omega
    subst e
    rw [List.drop_length] at hw
    exact .inl ⟨tr.2 (Nat.le_refl _), done s σ' H' Ho' e' hI hw⟩
theorem y_forC {S ρ : Type} {J : It} {xs : List α} {s0 : S} {body : α → S → W (Ctl ρ S)} {f : S → W ρ} {Φ : ρ → Prop} (T : Trn K r0 J xs Ho) (hw : (W.bind (W.forC xs s0 body) fun c => W.after c f).run Φ) (I : S → L2.St → Hp → Hp → Prop) (i0 : I s0 σ H Ho)
    (hz : ∀ s σ' H' Ho', I s σ' H' Ho' → ∃ rs', Zs rs' H' Ho' ∧ ∀ r ∈ r0, r ∈ rs')
    (im : ∀ s σ' H' Ho' H'' Ho'', I s σ' H' Ho' → Same Ho' Ho'' → (∀ rs, Zs rs H' Ho' → Zs rs H'' Ho'') → I s σ' H'' Ho'')
    (step : ∀ a x s σ' H' Ho' (N B : L2.St → Hp → Prop), Same Ho Ho' → I s σ' H' Ho' → Z.D K Ho' x a → (body a s).run (CtlP (fun s' => ∀ σ'' H'' Ho'', Same Ho' Ho'' → I s' σ'' H'' Ho'' → N σ'' H'') (fun s' => ∀ σ'' H'' Ho'', Same Ho' Ho'' → I s' σ'' H'' Ho'' → B σ'' H'') Φ) → g x σ' H' fun σ2 H2 => tb' { D with nx := N, ct := N, bk := B } σ2 H2)
    (done : ∀ s σ' H' Ho', Same Ho Ho' → I s σ' H' Ho' → (f s).run Φ → u1 D σ' H') : ForG g tb' u1 D σ J H := by
  refine ⟨fun i m σ' H' => m = xs.length - i ∧ i ≤ xs.length ∧ ∃ s Ho', Same Ho Ho' ∧ I s σ' H' Ho' ∧ (W.bind (W.forC (xs.drop i) s body) fun c => W.after c f).run Φ, ⟨xs.length, by simp, Nat.zero_le _, s0, Ho, Same.refl _, i0, hw⟩, ?_⟩
  rintro i m σ' H' ⟨rfl, hi, s, Ho', e', hI, hw⟩
  obtain ⟨rs', z', sub⟩ := hz s σ' H' Ho' hI
  have tr := T i rs' H' Ho' e' z' sub
  by_cases hlt : i < xs.length
  · refine .inr ?_
    have hxi := List.getElem?_eq_getElem hlt
    obtain ⟨go, yl⟩ := tr.1 _ hxi
    rw [drop_cons hxi] at hw
    refine ⟨go, fun σ'' H'' => ∃ s' Ho'', Same Ho Ho'' ∧ I s' σ'' H'' Ho'' ∧ (W.bind (W.forC (xs.drop (i + 1)) s' body) fun c => W.after c f).run Φ, fun σ'' H'' hN => ⟨xs.length - (i + 1), by omega, rfl, hlt, hN⟩, fun x H'' y => ?_⟩
    obtain ⟨Ho3, e3, z3, dx⟩ := yl x H'' y
    refine step _ x s σ' H'' Ho3 _ (u1 D) (e'.trans e3) (im _ _ _ _ _ _ hI e3 z3) dx ?_
    refine W.mono _ _ _ (fun c hc => ?_) (show (body xs[i] s).run _ from hw)
    cases c with
    | nx s' => exact fun σ4 H4 Ho4 e4 hI4 => ⟨s', Ho4, (e'.trans e3).trans e4, hI4, hc⟩
    | bk s' => exact fun σ4 H4 Ho4 e4 hI4 => done s' σ4 H4 Ho4 ((e'.trans e3).trans e4) hI4 hc
    | rt r => exact hc
  · have e : i = xs.length := by omega
    subst e
    rw [List.drop_length] at hw
    exact .inl ⟨tr.2 (Nat.le_refl _), done s σ' H' Ho' e' hI hw⟩
theorem y_while {S ρ : Type} {s0 : S} {body : S → W (Ctl ρ S)} {f : S → W ρ} {Φ : ρ → Prop} (hw : (W.bind (W.whileL s0 body) fun c => W.after c f).run Φ) (I : S → L2.St → Hp → Hp → Prop) (i0 : I s0 σ H Ho)
    (step : ∀ s σ' H' Ho' (N B : L2.St → Hp → Prop) (E : (L2.St → Hp → Prop) → Prop), E N → Same Ho Ho' → I s σ' H' Ho' → (body s).run (CtlP (fun s' => ∀ σ'' H'' Ho'', Same Ho' Ho'' → I s' σ'' H'' Ho'' → N σ'' H'') (fun s' => ∀ σ'' H'' Ho'', Same Ho' Ho'' → I s' σ'' H'' Ho'' → B σ'' H'') Φ) →
      tt σ' H' fun b H1 => if b = true then ∃ N, E N ∧ tb' { D with nx := N, ct := N, bk := B } σ' H1 else B σ' H1)
    (done : ∀ s σ' H' Ho', Same Ho Ho' → I s σ' H' Ho' → (f s).run Φ → u1 D σ' H') : tSeq (tWhile tt tb') u1 D σ H := by
  obtain ⟨n, hw⟩ := hw
  refine ⟨fun m σ' H' => ∃ s Ho', Same Ho Ho' ∧ I s σ' H' Ho' ∧ (W.bind (W.whileN m s body) fun c => W.after c f).run Φ, ⟨n, s0, Ho, Same.refl _, i0, hw⟩, ?_⟩
  rintro m σ' H' ⟨s, Ho', e', hI, hw⟩
  cases m with
  | zero => exact hw.elim
  | succ m =>
    refine step s σ' H' Ho' (fun σ'' H'' => ∃ s' Ho'', Same Ho Ho'' ∧ I s' σ'' H'' Ho'' ∧ (W.bind (W.whileN m s' body) fun c => W.after c f).run Φ) (u1 D) (fun N => ∀ σ' H', N σ' H' → ∃ m', m' < m + 1 ∧ ∃ s Ho', Same Ho Ho' ∧ I s σ' H' Ho' ∧ (W.bind (W.whileN m' s body) fun c => W.after c f).run Φ) (fun σ2 H2 h2 => ⟨m, Nat.lt_succ_self _, h2⟩) e' hI ?_
    refine W.mono _ _ _ (fun c hc => ?_) (show (body s).run _ from hw)
    cases c with
    | nx s' => exact fun σ4 H4 Ho4 e4 hI4 => ⟨s', Ho4, e'.trans e4, hI4, hc⟩
    | bk s' => exact fun σ4 H4 Ho4 e4 hI4 => done s' σ4 H4 Ho4 (e'.trans e4) hI4 hc
    | rt r => exact hc
end
end Z

/-! # Y3: targets, comprehensions, joins, errors, built-ins -/
namespace Z
open PySem PySem.Spec PyProof.Rows L2
section
variable {K : PySem.W.Frag} {rs r0 : List (Addr × HO)} {σ : L2.St} {H Ho : Hp} {ta tb tc te tl : TE} {tt tu : TT} {α β γ : Type} [Py α] [Py β] {p : Addr} {Φ : γ → Prop} {Q : VK} {v u : V}
/-! ### targets -/
theorem y_gname {i : Nat} {x : V} {σ σ' : L2.St} {Q : L2.St → Hp → Prop} (hs : σ.set i (some x) = σ') (h : Q σ' H) : gName i x σ H Q := by
  show Q _ H
  rw [hs]
  exact h
theorem y_gt2 {i j : Nat} {x : V} {σ : L2.St} {Q : L2.St → Hp → Prop} {a : α × β} (d : D K Ho x a) (z : Zs rs H Ho) (k : ∀ v u, D K Ho v a.1 → D K Ho u a.2 → Q ((σ.set i (some v)).set j (some u)) H) : gTup K 2 (gCons (gName i) (gCons (gName j) gNil)) x σ H Q := by
  cases d with
  | tup hs ha =>
    cases ha with
    | cons h1 h2 =>
      cases h2 with
      | cons h2 h3 =>
        cases h3
        exact ⟨_, _, rfl, SqT.of (z.le _ _ hs), rfl, _, _, rfl, _, _, rfl, rfl, k _ _ h1 h2⟩
theorem y_gt3 {δ : Type} [Py δ] {i j l : Nat} {x : V} {σ : L2.St} {Q : L2.St → Hp → Prop} {a : P3 α β δ} (d : D K Ho x a) (z : Zs rs H Ho) (k : ∀ v u w, D K Ho v a.a → D K Ho u a.b → D K Ho w a.c → Q (((σ.set i (some v)).set j (some u)).set l (some w)) H) :
    gTup K 3 (gCons (gName i) (gCons (gName j) (gCons (gName l) gNil))) x σ H Q := by
  cases d with
  | tup hs ha =>
    cases ha with
    | cons h1 h2 =>
      cases h2 with
      | cons h2 h3 =>
        cases h3 with
        | cons h3 h4 =>
          cases h4
          exact ⟨_, _, rfl, SqT.of (z.le _ _ hs), rfl, _, _, rfl, _, _, rfl, _, _, rfl, rfl, k _ _ _ h1 h2 h3⟩
theorem y_gt4 {δ ε : Type} [Py δ] [Py ε] {i j l m : Nat} {x : V} {σ : L2.St} {Q : L2.St → Hp → Prop} {a : P4 α β δ ε} (d : D K Ho x a) (z : Zs rs H Ho) (k : ∀ v u w t, D K Ho v a.a → D K Ho u a.b → D K Ho w a.c → D K Ho t a.d → Q ((((σ.set i (some v)).set j (some u)).set l (some w)).set m (some t)) H) :
    gTup K 4 (gCons (gName i) (gCons (gName j) (gCons (gName l) (gCons (gName m) gNil)))) x σ H Q := by
  cases d with
  | tup hs ha =>
    cases ha with
    | cons h1 h2 =>
      cases h2 with
      | cons h2 h3 =>
        cases h3 with
        | cons h3 h4 =>
          cases h4 with
          | cons h4 h5 =>
            cases h5
            exact ⟨_, _, rfl, SqT.of (z.le _ _ hs), rfl, _, _, rfl, _, _, rfl, _, _, rfl, _, _, rfl, rfl, k _ _ _ _ h1 h2 h3 h4⟩
/-! ### comprehensions -/
def comp {α β : Type} : List α → List β → (α → W Bool) → (α → W β) → W (List β)
  | [], acc, _, _ => W.ret acc
  | x :: xs, acc, t, f => W.bind (t x) fun b => W.ite b (W.bind (f x) fun y => comp xs (acc ++ [y]) t f) (comp xs acc t f)
def compG {α β : Type} (xs : List α) (t : α → W Bool) (f : α → W β) : W (List β) := W.guard (xs.length ≤ sizeLine) (comp xs [] t f)
/-- with a state -/
def compS {α β S : Type} : List α → List β → S → (α → S → W (Option β × S)) → W (List β × S)
  | [], acc, s, _ => W.ret (acc, s)
  | x :: xs, acc, s, f => W.bind (f x s) fun r => match r.1 with
    | none => compS xs acc r.2 f
    | some y => compS xs (acc ++ [y]) r.2 f
def compSG {α β S : Type} (xs : List α) (s : S) (f : α → S → W (Option β × S)) : W (List β × S) := W.guard (xs.length ≤ sizeLine) (compS xs [] s f)
def LcG (g : TG) (tt : TT) (te : TE) (vs : List Nat) (σ : L2.St) (Q : VK) (J : It) (H1 : Hp) : Prop := ∀ D, H1 D = none → ∃ W : Nat → Nat → Hp → Prop, (∃ m, W 0 m (upd H1 D (.lst []))) ∧ ∀ i m H, W i m H →
  (J.stop i H ∧ Q (.ref D) H) ∨ (J.go i H ∧ ∃ Nx : Hp → Prop, (∀ H', Nx H' → ∃ m', m' < m ∧ W (i + 1) m' H') ∧ ∀ x H', J.yld i H x H' → g x (wipe σ vs) H' fun σ2 H2 => wipe σ2 vs = wipe σ vs ∧ tt σ2 H2 fun b H3 =>
    if b = true then te σ2 H3 fun y H4 => ∃ acc, H4 D = some (.lst acc) ∧ acc.length < sizeLine ∧ Nx (upd H4 D (.lst (acc ++ [y]))) else Nx H3)
variable {g : TG} {vs : List Nat} {wi : TI}
theorem y_lc (k : wi σ H fun J H1 => LcG g tt te vs σ Q J H1) : tLc wi g tt te vs σ H Q := k
theorem y_yes {QB : Bool → Hp → Prop} (k : QB true H) : tYes σ H QB := k
theorem y_lcG {J : It} {xs : List α} {ct : α → W Bool} {cf : α → W β} {f : List β → W γ} (z : Zs rs H Ho) (hr : ∀ r ∈ r0, r ∈ rs) (T : Trn K r0 J xs Ho) (hw : (W.bind (compG xs ct cf) f).run Φ)
    (hx : ∀ (r : Addr × HO) a x H' Ho' (N : VK) (N' : Hp → Prop), Same Ho Ho' → Zs (r :: rs) H' Ho' → Z.D K Ho' x a →
      (W.bind (ct a) fun b => W.ite b (cf a) ⟨fun Ψ => ∀ H'' Ho'', Same Ho' Ho'' → Zs (r :: rs) H'' Ho'' → N' H'', fun _ _ _ q => q⟩).run (fun y => ∀ w H'' Ho'', Same Ho' Ho'' → Zs (r :: rs) H'' Ho'' → Z.D K Ho'' w y → N w H'') →
      g x (wipe σ vs) H' fun σ2 H2 => wipe σ2 vs = wipe σ vs ∧ tt σ2 H2 fun b H3 => if b = true then te σ2 H3 N else N' H3)
    (k : ∀ ys H' Ho', Same Ho Ho' → (f ys).run Φ → ∀ p ws, Zs ((p, .lst ws) :: rs) H' Ho' → DL K Ho' ws ys → Q (.ref p) H') : LcG g tt te vs σ Q J H := by
  intro Dn hD
  obtain ⟨hsz, hw⟩ := hw
  refine ⟨fun i m H => m = xs.length - i ∧ i ≤ xs.length ∧ ∃ (Ho' : Hp) (acc : List β) (acs : List V), Same Ho Ho' ∧ Zs ((Dn, .lst acs) :: rs) H Ho' ∧ DL K Ho' acs acc ∧ acs.length ≤ i ∧ (comp (xs.drop i) acc ct cf).run fun ys => (f ys).run Φ,
    ⟨xs.length, by simp, Nat.zero_le _, Ho, [], [], Same.refl _, z.root hD, .nil, Nat.le_refl _, hw⟩, ?_⟩
  rintro i m H ⟨rfl, hi, Ho', acc, acs, e', z', da, la, hw⟩
  have tr := T i _ H Ho' e' z' fun r hrr => List.mem_cons_of_mem _ (hr r hrr)
  by_cases hlt : i < xs.length
  · refine .inr ?_
    have hxi := List.getElem?_eq_getElem hlt
    obtain ⟨go, yl⟩ := tr.1 _ hxi
    refine ⟨go, fun H' => ∃ (Ho' : Hp) (acc : List β) (acs : List V), Same Ho Ho' ∧ Zs ((Dn, .lst acs) :: rs) H' Ho' ∧ DL K Ho' acs acc ∧ acs.length ≤ i + 1 ∧ (comp (xs.drop (i + 1)) acc ct cf).run fun ys => (f ys).run Φ, fun H' hN => ⟨xs.length - (i + 1), by omega, rfl, hlt, hN⟩, fun x H' y => ?_⟩
    obtain ⟨Ho2, e2, z2, dx⟩ := yl x H' y
    rw [drop_cons hxi] at hw
    refine hx (Dn, .lst acs) _ x H' Ho2 _ _ (e'.trans e2) (z2 _ z') dx ?_
    have hw : (ct xs[i]).run fun b => (W.ite b (W.bind (cf xs[i]) fun y => comp (xs.drop (i + 1)) (acc ++ [y]) ct cf) (comp (xs.drop (i + 1)) acc ct cf)).run fun ys => (f ys).run Φ := hw
    show (ct xs[i]).run _
    refine W.mono _ _ _ (fun b hb => ?_) hw
    refine ⟨fun e => ?_, fun e H'' Ho'' e3 z3 => ?_⟩
    · refine W.mono _ _ _ (fun y hy w H'' Ho'' e3 z3 dw => ?_) (hb.1 e)
      refine ⟨acs, z3.head, by omega, Ho'', acc ++ [y], acs ++ [w], (e'.trans e2).trans e3, z3.put, (DL.mo (DL.mo da e2) e3).push dw, ?_, hy⟩
      rw [List.length_append]
      exact Nat.succ_le_succ la
    · exact ⟨Ho'', acc, acs, (e'.trans e2).trans e3, z3, DL.mo (DL.mo da e2) e3, Nat.le_succ_of_le la, hb.2 e⟩
  · have e : i = xs.length := by omega
    subst e
    refine .inl ⟨tr.2 (Nat.le_refl _), ?_⟩
    rw [List.drop_length] at hw
    exact k acc H Ho' e' hw Dn acs z' da
theorem y_lcS {S : Type} {J : It} {xs : List α} {s0 : S} {body : α → S → W (Option β × S)} {f : List β × S → W γ} (z : Zs rs H Ho) (T : Trn K r0 J xs Ho) (hw : (W.bind (compSG xs s0 body) f).run Φ) (I : (Addr × HO) → S → Hp → Hp → Prop)
    (i0 : ∀ r H', Zs (r :: rs) H' Ho → I r s0 H' Ho)
    (iz : ∀ r s H' Ho', I r s H' Ho' → ∃ rs', Zs (r :: rs') H' Ho' ∧ ∀ q ∈ r0, q ∈ rs')
    (im : ∀ r s H' Ho' H'' Ho'', I r s H' Ho' → Same Ho' Ho'' → (∀ rs, Zs rs H' Ho' → Zs rs H'' Ho'') → I r s H'' Ho'')
    (ip : ∀ p o o' s H' Ho', I (p, o) s H' Ho' → I (p, o') s (upd H' p o') Ho')
    (hx : ∀ (r : Addr × HO) a x s H' Ho' (N : VK) (N' : Hp → Prop), Same Ho Ho' → I r s H' Ho' → Z.D K Ho' x a →
      (body a s).run (fun q => match q.1 with | some y => ∀ w H'' Ho'', Same Ho' Ho'' → I r q.2 H'' Ho'' → Z.D K Ho'' w y → N w H'' | none => ∀ H'' Ho'', Same Ho' Ho'' → I r q.2 H'' Ho'' → N' H'') →
      g x (wipe σ vs) H' fun σ2 H2 => wipe σ2 vs = wipe σ vs ∧ tt σ2 H2 fun b H3 => if b = true then te σ2 H3 N else N' H3)
    (k : ∀ ys s p ws H' Ho', Same Ho Ho' → I (p, .lst ws) s H' Ho' → DL K Ho' ws ys → (f (ys, s)).run Φ → Q (.ref p) H') : LcG g tt te vs σ Q J H := by
  intro Dn hD
  obtain ⟨hsz, hw⟩ := hw
  refine ⟨fun i m H => m = xs.length - i ∧ i ≤ xs.length ∧ ∃ (Ho' : Hp) (acc : List β) (acs : List V) (s : S), Same Ho Ho' ∧ I (Dn, .lst acs) s H Ho' ∧ DL K Ho' acs acc ∧ acs.length ≤ i ∧ (compS (xs.drop i) acc s body).run fun q => (f q).run Φ,
    ⟨xs.length, by simp, Nat.zero_le _, Ho, [], [], s0, Same.refl _, i0 _ _ (z.root hD), .nil, Nat.le_refl _, hw⟩, ?_⟩
  rintro i m H ⟨rfl, hi, Ho', acc, acs, s, e', hI, da, la, hw⟩
  obtain ⟨rs', z', sub⟩ := iz _ _ _ _ hI
  have tr := T i _ H Ho' e' z' fun r hrr => List.mem_cons_of_mem _ (sub r hrr)
  by_cases hlt : i < xs.length
  · refine .inr ?_
    have hxi := List.getElem?_eq_getElem hlt
    obtain ⟨go, yl⟩ := tr.1 _ hxi
    refine ⟨go, fun H' => ∃ (Ho' : Hp) (acc : List β) (acs : List V) (s : S), Same Ho Ho' ∧ I (Dn, .lst acs) s H' Ho' ∧ DL K Ho' acs acc ∧ acs.length ≤ i + 1 ∧ (compS (xs.drop (i + 1)) acc s body).run fun q => (f q).run Φ, fun H' hN => ⟨xs.length - (i + 1), by omega, rfl, hlt, hN⟩, fun x H' y => ?_⟩
    obtain ⟨Ho2, e2, z2, dx⟩ := yl x H' y
    rw [drop_cons hxi] at hw
    refine hx (Dn, .lst acs) _ x s H' Ho2 _ _ (e'.trans e2) (im _ _ _ _ _ _ hI e2 z2) dx ?_
    refine W.mono _ _ _ (fun q hq => ?_) (show (body xs[i] s).run _ from hw)
    obtain ⟨o, s'⟩ := q
    cases o with
    | some y =>
      intro w H'' Ho'' e3 hI3 dw
      obtain ⟨rs3, z3, _⟩ := iz _ _ _ _ hI3
      refine ⟨acs, z3.head, by omega, Ho'', acc ++ [y], acs ++ [w], s', (e'.trans e2).trans e3, ip _ _ _ _ _ _ hI3, (DL.mo (DL.mo da e2) e3).push dw, ?_, hq⟩
      rw [List.length_append]
      exact Nat.succ_le_succ la
    | none =>
      intro H'' Ho'' e3 hI3
      exact ⟨Ho'', acc, acs, s', (e'.trans e2).trans e3, hI3, DL.mo (DL.mo da e2) e3, Nat.le_succ_of_le la, hq⟩
  · have e : i = xs.length := by omega
    subst e
    refine .inl ⟨tr.2 (Nat.le_refl _), ?_⟩
    rw [List.drop_length] at hw
    exact k acc s Dn acs H Ho' e' hI da hw
/-! ### where ways meet -/
theorem y_join {ρ β : Type} {a : Bool} {c1 c2 : W β} {f : β → W γ} {X Y : Prop} {Q : ρ → Hp → Prop} (hw : (W.bind (W.ite a c1 c2) f).run Φ) (J : β → ρ → Hp → Prop)
    (h1 : a = true → (∀ r v H', J r v H' → (f r).run Φ → Q v H') → (W.bind c1 f).run Φ → X)
    (h2 : a = false → (∀ r v H', J r v H' → (f r).run Φ → Q v H') → (W.bind c2 f).run Φ → Y)
    (k : ∀ r v H', J r v H' → (f r).run Φ → Q v H') : if a = true then X else Y := by
  cases a with
  | true => exact iteT (h1 rfl k (hw.1 rfl))
  | false => exact iteF (h2 rfl k (hw.2 rfl))
/-- both ways are total and lay nothing down -/
theorem y_andP {a : Bool} (b : Bool) {X : Prop} {Q : Bool → Hp → Prop} (h : a = true → Q b H → X) (k : Q (a && b) H) : if a = true then X else Q false H := by
  cases a with
  | true => exact iteT (h rfl k)
  | false => exact iteF k
theorem y_orP {a : Bool} (b : Bool) {X : Prop} {Q : Bool → Hp → Prop} (h : a = false → Q b H → X) (k : Q (a || b) H) : if a = true then Q true H else X := by
  cases a with
  | true => exact iteT k
  | false => exact iteF (h rfl k)
theorem y_andPV {a : Bool} (b : Bool) {X : Prop} (h : a = true → Q (.bl b) H → X) (k : Q (.bl (a && b)) H) : if a = true then X else Q (.bl false) H := by
  cases a with
  | true => exact iteT (h rfl k)
  | false => exact iteF k
theorem y_orPV {a : Bool} (b : Bool) {X : Prop} (h : a = false → Q (.bl b) H → X) (k : Q (.bl (a || b)) H) : if a = true then Q (.bl true) H else X := by
  cases a with
  | true => exact iteT k
  | false => exact iteF (h rfl k)
/-! ### errors -/
def ExP {α : Type} (N : α → Prop) (R : Er → Prop) : Ex α → Prop
  | .ok a => N a
  | .er e => R e
theorem exP_ok {α : Type} {N : α → Prop} {R : Er → Prop} {a : α} (h : ExP N R (.ok a)) : N a := h
theorem exP_er {α : Type} {N : α → Prop} {R : Er → Prop} {e : Er} (h : ExP N R (.er e)) : R e := h
def W.exm {α β : Type} (c : W (Ex α)) (f : α → W β) (g : Er → W β) : W β := W.bind c fun r => match r with
  | .ok a => f a
  | .er e => g e
/-- where nothing may be raised -/
def W.sure {α : Type} (c : W (Ex α)) : W α := W.exm c W.ret fun _ => W.bad
theorem run_exm {α β : Type} {c : W (Ex α)} {f : α → W β} {g : Er → W β} {Φ : β → Prop} (h : (W.exm c f g).run Φ) : c.run (ExP (fun a => (f a).run Φ) fun e => (g e).run Φ) :=
  W.mono _ _ _ (fun r hr => by cases r with | ok a => exact hr | er e => exact hr) h
theorem exm_run {α β : Type} {c : W (Ex α)} {f : α → W β} {g : Er → W β} {Φ : β → Prop} (h : c.run (ExP (fun a => (f a).run Φ) fun e => (g e).run Φ)) : (W.exm c f g).run Φ :=
  c.mono (ExP (fun a => (f a).run Φ) fun e => (g e).run Φ) _ (fun r hr => by cases r with | ok a => exact hr | er e => exact hr) h
theorem run_sure {α β : Type} {c : W (Ex α)} {f : α → W β} {Φ : β → Prop} (h : (W.bind (W.sure c) f).run Φ) : c.run (ExP (fun a => (f a).run Φ) fun _ => False) := run_exm h
theorem y_callS {sp : Sp} {E : L2.St → XK} {ts : TA} (k : ts σ H fun vs H1 => sp vs H1 Q (E σ)) : tCallS sp E ts σ H Q := k
def tRaise (C : Addr) (Wx : WX) : TS := fun _ σ H => Wx (.ref C) none σ H
theorem y_raise {C : Addr} {Wx : WX} {w : TS} {D : Ends} (k : Wx (.ref C) none σ H) : tSeq (tRaise C Wx) w D σ H := k
def tTryAs (K : PySem.W.Frag) (c : Value) (i : Nat) (tb : WX → TS) (ts : Addr → Value → Option Addr → TS) (Wout : WX) : TS := fun D σ H => tb (wAs K c i ts Wout D) D σ H
def tTryOnly (K : PySem.W.Frag) (c : Value) (tb : WX → TS) (ts : Addr → Value → Option Addr → TS) (Wout : WX) : TS := fun D σ H => tb (wOnly K c ts Wout D) D σ H
variable {cl : Nat → Addr} {Wout : WX} {D : Ends} {u1 : TS} {i : Nat}
theorem y_tryJ {S : Type} {c : Value} {cb : W (Ex S)} {cs : Er → W S} {f : S → W γ} {tb : WX → TS} {ts : Addr → Value → Option Addr → TS} {sub : Nat → Bool} (σ' : Addr → L2.St) (hm : ∀ n, PySem.W.exmOne K (.ref (cl n)) c = some (sub n)) (z : Zs rs H Ho)
    (hw : (W.bind (W.exm cb W.ret fun e => W.guard (sub e.cls = true) (cs e)) f).run Φ) (J : S → L2.St → Hp → Hp → Prop) (hσ : ∀ a, σ.set i (some (.ref a)) = σ' a)
    (hb : ∀ (Wx : WX) (N : L2.St → Hp → Prop), cb.run (ExP (fun s => ∀ σ' H'' Ho'', Same Ho Ho'' → J s σ' H'' Ho'' → N σ' H'') fun e => ∀ H' Ho', Same Ho Ho' → Zs rs H' Ho' → Wx (.ref (cl e.cls)) none σ H') → tb Wx { D with nx := N } σ H)
    (hs : ∀ e a H' Ho' (N : L2.St → Hp → Prop), Same Ho Ho' → Zs rs H' Ho' → H' a = none → (cs e).run (fun s => ∀ σ' H'' Ho'', Same Ho' Ho'' → J s σ' H'' Ho'' → N σ' H'') →
      ts a (.ref (cl e.cls)) none { nx := fun σ' H' => N (σ'.set i none) H', rt := D.rt, bk := fun σ' H' => D.bk (σ'.set i none) H', ct := fun σ' H' => D.ct (σ'.set i none) H' } (σ' a) H')
    (k : ∀ s σ' H' Ho', Same Ho Ho' → J s σ' H' Ho' → (f s).run Φ → u1 D σ' H') : tSeq (tTryAs K c i tb ts Wout) u1 D σ H := by
  refine hb _ _ (W.mono _ _ _ (fun r hr => ?_) (run_exm hw))
  cases r with
  | ok s => exact fun σ' H' Ho' e j => k s σ' H' Ho' e j hr
  | er r =>
    refine fun H' Ho' e z' => ⟨true, by rw [hm, hr.1], fun _ a ha => ?_, fun q => nomatch q⟩
    rw [hσ]
    exact hs r a H' Ho' (u1 D) e z' ha (W.mono _ _ _ (fun s hs σ' H'' Ho'' e'' j => k s σ' H'' Ho'' (e.trans e'') j hs) hr.2)
theorem y_tryOJ {S : Type} {c : Value} {cb : W (Ex S)} {cs : Er → W S} {f : S → W γ} {tb : WX → TS} {ts : Addr → Value → Option Addr → TS} {sub : Nat → Bool} (hm : ∀ n, PySem.W.exmOne K (.ref (cl n)) c = some (sub n)) (z : Zs rs H Ho)
    (hw : (W.bind (W.exm cb W.ret fun e => W.guard (sub e.cls = true) (cs e)) f).run Φ) (J : S → L2.St → Hp → Hp → Prop)
    (hb : ∀ (Wx : WX) (N : L2.St → Hp → Prop), cb.run (ExP (fun s => ∀ σ' H'' Ho'', Same Ho Ho'' → J s σ' H'' Ho'' → N σ' H'') fun e => ∀ H' Ho', Same Ho Ho' → Zs rs H' Ho' → Wx (.ref (cl e.cls)) none σ H') → tb Wx { D with nx := N } σ H)
    (hs : ∀ e a H' Ho' (N : L2.St → Hp → Prop), Same Ho Ho' → Zs rs H' Ho' → H' a = none → (cs e).run (fun s => ∀ σ' H'' Ho'', Same Ho' Ho'' → J s σ' H'' Ho'' → N σ' H'') → ts a (.ref (cl e.cls)) none { D with nx := N } σ H')
    (k : ∀ s σ' H' Ho', Same Ho Ho' → J s σ' H' Ho' → (f s).run Φ → u1 D σ' H') : tSeq (tTryOnly K c tb ts Wout) u1 D σ H := by
  refine hb _ _ (W.mono _ _ _ (fun r hr => ?_) (run_exm hw))
  cases r with
  | ok s => exact fun σ' H' Ho' e j => k s σ' H' Ho' e j hr
  | er r =>
    refine fun H' Ho' e z' => ⟨true, by rw [hm, hr.1], fun _ a ha => ?_, fun q => nomatch q⟩
    exact hs r a H' Ho' (u1 D) e z' ha (W.mono _ _ _ (fun s hs σ' H'' Ho'' e'' j => k s σ' H'' Ho'' (e.trans e'') j hs) hr.2)
/-! ### built-ins by values -/
def rLenZ (K : PySem.W.Frag) : List V → Hp → VK → Prop := fun xs H Q => ∃ p ys, xs = [.ref p] ∧ (SqL K H p ys ∨ SqT K H p ys) ∧ Q (.int ys.length) H
def rListZ (K : PySem.W.Frag) : List V → Hp → VK → Prop := fun xs H Q => ∃ p ys, xs = [.ref p] ∧ (SqL K H p ys ∨ SqT K H p ys) ∧ ∀ l, H l = none → Q (.ref l) (upd H l (.lst ys))
theorem y_len {xs : List α} (d : LV K rs Ho v xs) (z : Zs rs H Ho) (k : Q (.int (xs.length : Int)) H) : rLenZ K [v] H Q := by
  obtain ⟨p, vs, rfl, d, s⟩ := LV.rd d z
  refine ⟨p, vs, rfl, .inl s, ?_⟩
  rw [d.len]
  exact k
theorem y_list {xs : List α} (d : LV K rs Ho v xs) (z : Zs rs H Ho) (k : ∀ H' p ws, Zs ((p, .lst ws) :: rs) H' Ho → DL K Ho ws xs → Q (.ref p) H') : rListZ K [v] H Q := by
  obtain ⟨p, vs, rfl, d, s⟩ := LV.rd d z
  exact ⟨p, vs, rfl, .inl s, fun q hq => k _ q _ (z.root hq) d⟩
theorem y_abs {a : Int} (k : Q (.int (if a < 0 then -a else a)) H) : (fun xs H Q => ∃ i, xs = [.int i] ∧ Q (.int (if i < 0 then -i else i)) H : List V → Hp → VK → Prop) [.int a] H Q := ⟨a, rfl, k⟩
theorem y_intB {a : Bool} (k : Q (.int (if a then 1 else 0)) H) : (fun xs H Q => (∃ i, xs = [.int i] ∧ Q (.int i) H) ∨ ∃ k, xs = [.bl k] ∧ Q (.int (if k then 1 else 0)) H : List V → Hp → VK → Prop) [.bl a] H Q := .inr ⟨a, rfl, k⟩
theorem y_min2 {a b : Int} (k : Q (.int (if b < a then b else a)) H) : (fun xs H Q => ∃ i j, xs = [.int i, .int j] ∧ Q (.int (if j < i then j else i)) H : List V → Hp → VK → Prop) [.int a, .int b] H Q := ⟨a, b, rfl, k⟩
theorem y_max2 {a b : Int} (k : Q (.int (if b > a then b else a)) H) : (fun xs H Q => ∃ i j, xs = [.int i, .int j] ∧ Q (.int (if j > i then j else i)) H : List V → Hp → VK → Prop) [.int a, .int b] H Q := ⟨a, b, rfl, k⟩
theorem y_all {xs : List Bool} (d : LV K rs Ho v xs) (z : Zs rs H Ho) (k : Q (.bl (xs.all id)) H) : rAll K [v] H Q := by
  obtain ⟨p, vs, rfl, d, s⟩ := LV.rd d z
  rw [dl_bools d] at s
  exact ⟨p, xs, rfl, s, k⟩
theorem y_any {xs : List Bool} (d : LV K rs Ho v xs) (z : Zs rs H Ho) (k : Q (.bl (xs.any id)) H) : rAny K [v] H Q := by
  obtain ⟨p, vs, rfl, d, s⟩ := LV.rd d z
  rw [dl_bools d] at s
  exact ⟨p, xs, rfl, s, k⟩
theorem y_sum {xs : List Int} (d : LV K rs Ho v xs) (z : Zs rs H Ho) (k : Q (.int xs.sum) H) : rSum K [v] H Q := by
  obtain ⟨p, vs, rfl, d, s⟩ := LV.rd d z
  rw [dl_ints d] at s
  exact ⟨p, xs, rfl, s, k⟩
def srtI (xs : List Int) : List Int := xs.mergeSort fun a b => decide (a ≤ b)
theorem srtI_perm (xs : List Int) : (srtI xs).Perm xs := List.mergeSort_perm xs _
theorem srtI_srt (xs : List Int) : (srtI xs).Pairwise (· ≤ ·) := by
  have h := List.pairwise_mergeSort (le := fun a b : Int => decide (a ≤ b)) (fun a b c h1 h2 => by simp at h1 h2 ⊢; omega) (fun a b => by simp; omega) xs
  exact h.imp fun h => of_decide_eq_true h
theorem srtI_of {xs ys : List Int} (h : ys.Perm xs) (hs : ys.Pairwise (· ≤ ·)) : ys = srtI xs :=
  List.Perm.eq_of_pairwise (le := (· ≤ ·)) (fun a b _ _ h1 h2 => Int.le_antisymm h1 h2) hs (srtI_srt xs) (h.trans (srtI_perm xs).symm)
theorem y_sortI {xs : List Int} (d : LV K rs Ho v xs) (z : Zs rs H Ho) (k : ∀ H' p ws, Zs ((p, .lst ws) :: rs) H' Ho → DL K Ho ws (srtI xs) → Q (.ref p) H') : rSortedI K [v] H Q := by
  obtain ⟨p, vs, rfl, d, s⟩ := LV.rd d z
  rw [dl_ints d] at s
  refine ⟨p, xs, rfl, s, fun ns' q hp hs hq => ?_⟩
  rw [srtI_of hp hs]
  exact k _ q _ (z.root hq) ints_dl
def mxD (ns : List Int) (d : Int) : Int := match ns with
  | [] => d
  | x :: xs => xs.foldl (fun a y => if decide (a < y) = true then y else a) x
def mnD (ns : List Int) (d : Int) : Int := match ns with
  | [] => d
  | x :: xs => xs.foldl (fun a y => if decide (y < a) = true then y else a) x
def rMxD (K : PySem.W.Frag) : List V → List V → Hp → VK → Prop := fun vs zs H Q => ∃ (a : Addr) (ns : List Int) (d : Int), vs = [V.ref a] ∧ zs = [V.int d] ∧ SqL K H a (ns.map V.int) ∧ Q (.int (mxD ns d)) H
def rMnD (K : PySem.W.Frag) : List V → List V → Hp → VK → Prop := fun vs zs H Q => ∃ (a : Addr) (ns : List Int) (d : Int), vs = [V.ref a] ∧ zs = [V.int d] ∧ SqL K H a (ns.map V.int) ∧ Q (.int (mnD ns d)) H
theorem hold_ints {h : Heap} : ∀ {ns : List Int} {us : List Value}, Vals (ns.map V.int) us → PySem.W.HoldAll h us ns
  | [], us, r => by cases r; exact PySem.W.HoldAll.nil
  | n :: ns, us, r => by
    cases r with
    | cons r1 r2 =>
      obtain ⟨t, rfl⟩ := r1
      exact PySem.W.HoldAll.cons (PySem.W.holds_int n t) (hold_ints r2)
theorem zmxD {X : Cx} {K : PySem.W.Frag} (hK : X.K = K) (hc : X.calm = true) (hu : X.A.units + 64 < cLine) : CallRK X (.builtin "max") [Str.ofString "default"] (rMxD K) := by
  subst hK
  intro pins s σ H vs zs us ws Q I r rz h
  obtain ⟨a, ns, d, rfl, rfl, hs, q⟩ := h
  obtain rfl := Vals.ref1 r
  obtain ⟨w1, rfl, t, rfl⟩ := vals1 rz
  obtain ⟨its, rv, hl, hz⟩ := I.list hs
  refine PySem.W.max_list_datum_default (α := Int) (I.ok.hd hc) hl.isList (hold_ints rv) (by show X.A.units + 1 + 0 < cLine; omega) (fun e h' tk k => ⟨.int d, H, I.kept (t' := tk) k, ⟨t, rfl⟩, ?_⟩) fun y ys i v h' tk e hi hh k => ?_
  · subst e; exact q
  · subst e
    obtain ⟨t', rfl⟩ := PySem.W.int_of_holds hh
    exact ⟨.int _, H, I.kept (t' := tk) k, ⟨t', rfl⟩, q⟩
theorem zmnD {X : Cx} {K : PySem.W.Frag} (hK : X.K = K) (hc : X.calm = true) (hu : X.A.units + 64 < cLine) : CallRK X (.builtin "min") [Str.ofString "default"] (rMnD K) := by
  subst hK
  intro pins s σ H vs zs us ws Q I r rz h
  obtain ⟨a, ns, d, rfl, rfl, hs, q⟩ := h
  obtain rfl := Vals.ref1 r
  obtain ⟨w1, rfl, t, rfl⟩ := vals1 rz
  obtain ⟨its, rv, hl, hz⟩ := I.list hs
  refine PySem.W.min_list_datum_default (α := Int) (I.ok.hd hc) hl.isList (hold_ints rv) (by show X.A.units + 1 + 0 < cLine; omega) (fun e h' tk k => ⟨.int d, H, I.kept (t' := tk) k, ⟨t, rfl⟩, ?_⟩) fun y ys i v h' tk e hi hh k => ?_
  · subst e; exact q
  · subst e
    obtain ⟨t', rfl⟩ := PySem.W.int_of_holds hh
    exact ⟨.int _, H, I.kept (t' := tk) k, ⟨t', rfl⟩, q⟩
theorem y_ckw {r : List V → List V → Hp → VK → Prop} {ts tk : TA} (k : ts σ H fun vs H1 => tk σ H1 fun zs H2 => r vs zs H2 Q) : tCKw r ts tk σ H Q := k
theorem y_mxD {xs : List Int} {a : Int} (d : LV K rs Ho v xs) (z : Zs rs H Ho) (k : Q (.int (mxD xs a)) H) : rMxD K [v] [.int a] H Q := by
  obtain ⟨p, vs, rfl, d, s⟩ := LV.rd d z
  rw [dl_ints d] at s
  exact ⟨p, xs, a, rfl, rfl, s, k⟩
theorem y_mnD {xs : List Int} {a : Int} (d : LV K rs Ho v xs) (z : Zs rs H Ho) (k : Q (.int (mnD xs a)) H) : rMnD K [v] [.int a] H Q := by
  obtain ⟨p, vs, rfl, d, s⟩ := LV.rd d z
  rw [dl_ints d] at s
  exact ⟨p, xs, a, rfl, rfl, s, k⟩
/-- min, max of a list that is not empty -/
def mxL (xs : List Int) : W Int := W.guard (0 < xs.length) (W.ret (mxD xs 0))
def mnL (xs : List Int) : W Int := W.guard (0 < xs.length) (W.ret (mnD xs 0))
theorem mxF : ∀ (xs : List Int) (x : Int), (xs.foldl (fun a y => if decide (a < y) = true then y else a) x) ∈ x :: xs ∧ ∀ y ∈ x :: xs, y ≤ xs.foldl (fun a y => if decide (a < y) = true then y else a) x
  | [], x => by simp
  | y :: ys, x => by
    have ih := mxF ys (if decide (x < y) = true then y else x)
    simp only [List.foldl_cons]
    generalize hr : ys.foldl (fun a y => if decide (a < y) = true then y else a) (if decide (x < y) = true then y else x) = r at ih
    obtain ⟨h1, h2⟩ := ih
    by_cases c : x < y
    · simp only [decide_eq_true c, if_true] at h1 h2
      refine ⟨List.mem_cons_of_mem _ h1, fun z hz => ?_⟩
      rcases List.mem_cons.mp hz with rfl | hz
      · have := h2 y List.mem_cons_self; omega
      · exact h2 z hz
    · simp only [decide_eq_false c, Bool.false_eq_true, if_false] at h1 h2
      refine ⟨?_, fun z hz => ?_⟩
      · rcases List.mem_cons.mp h1 with h | h
        · rw [h]; exact List.mem_cons_self
        · exact List.mem_cons_of_mem _ (List.mem_cons_of_mem _ h)
      · rcases List.mem_cons.mp hz with rfl | hz
        · exact h2 _ List.mem_cons_self
        · rcases List.mem_cons.mp hz with rfl | hz
          · have := h2 x List.mem_cons_self; omega
          · exact h2 z (List.mem_cons_of_mem _ hz)
theorem mnF : ∀ (xs : List Int) (x : Int), (xs.foldl (fun a y => if decide (y < a) = true then y else a) x) ∈ x :: xs ∧ ∀ y ∈ x :: xs, xs.foldl (fun a y => if decide (y < a) = true then y else a) x ≤ y
  | [], x => by simp
  | y :: ys, x => by
    have ih := mnF ys (if decide (y < x) = true then y else x)
    simp only [List.foldl_cons]
    generalize hr : ys.foldl (fun a y => if decide (y < a) = true then y else a) (if decide (y < x) = true then y else x) = r at ih
    obtain ⟨h1, h2⟩ := ih
    by_cases c : y < x
    · simp only [decide_eq_true c, if_true] at h1 h2
      refine ⟨List.mem_cons_of_mem _ h1, fun z hz => ?_⟩
      rcases List.mem_cons.mp hz with rfl | hz
      · have := h2 y List.mem_cons_self; omega
      · exact h2 z hz
    · simp only [decide_eq_false c, Bool.false_eq_true, if_false] at h1 h2
      refine ⟨?_, fun z hz => ?_⟩
      · rcases List.mem_cons.mp h1 with h | h
        · rw [h]; exact List.mem_cons_self
        · exact List.mem_cons_of_mem _ (List.mem_cons_of_mem _ h)
      · rcases List.mem_cons.mp hz with rfl | hz
        · exact h2 _ List.mem_cons_self
        · rcases List.mem_cons.mp hz with rfl | hz
          · have := h2 x List.mem_cons_self; omega
          · exact h2 z (List.mem_cons_of_mem _ hz)
theorem y_mxL {xs : List Int} (d : LV K rs Ho v xs) (z : Zs rs H Ho) (hg : 0 < xs.length) (k : Q (.int (mxD xs 0)) H) : rMax K [v] H Q := by
  obtain ⟨p, vs, rfl, d, s⟩ := LV.rd d z
  rw [dl_ints d] at s
  refine ⟨p, xs, rfl, s, hg, fun m hm hy => ?_⟩
  cases xs with
  | nil => simp at hg
  | cons x xs =>
    have q := mxF xs x
    have e : mxD (x :: xs) 0 = m := Int.le_antisymm (hy _ q.1) (q.2 _ hm)
    rw [← e]; exact k
theorem y_mnL {xs : List Int} (d : LV K rs Ho v xs) (z : Zs rs H Ho) (hg : 0 < xs.length) (k : Q (.int (mnD xs 0)) H) : rMin K [v] H Q := by
  obtain ⟨p, vs, rfl, d, s⟩ := LV.rd d z
  rw [dl_ints d] at s
  refine ⟨p, xs, rfl, s, hg, fun m hm hy => ?_⟩
  cases xs with
  | nil => simp at hg
  | cons x xs =>
    have q := mnF xs x
    have e : mnD (x :: xs) 0 = m := Int.le_antisymm (q.2 _ hm) (hy _ q.1)
    rw [← e]; exact k
end
end Z

/-! # sorted lists of tuples of ints, any number of them -/
namespace Z
open PySem PySem.Spec PyProof.Rows L2
theorem DL.item {α : Type} [Py α] {K : PySem.W.Frag} {vs : List V} {xs : List α} {i : Nat} {v : V} {H : Hp} (h : DL K H vs xs) (e : vs[i]? = some v) : ∃ x, xs[i]? = some x ∧ D K H v x := by
  have hi : i < xs.length := by rw [← h.len]; exact (List.getElem?_eq_some_iff.mp e).1
  obtain ⟨w, ew, dw⟩ := h.get (List.getElem?_eq_getElem hi)
  rw [e] at ew
  cases ew
  exact ⟨_, List.getElem?_eq_getElem hi, dw⟩
def lexL : List Int → List Int → Bool
  | [], [] => false
  | [], _ :: _ => true
  | _ :: _, [] => false
  | x :: xs, y :: ys => if x = y then lexL xs ys else decide (x < y)
theorem lexL_asym : ∀ a b : List Int, lexL a b = true → lexL b a = false
  | [], [], h => nomatch h
  | [], _ :: _, _ => rfl
  | _ :: _, [], h => nomatch h
  | x :: xs, y :: ys, h => by
    have h : (if x = y then lexL xs ys else decide (x < y)) = true := h
    show (if y = x then lexL ys xs else decide (y < x)) = false
    by_cases e : x = y
    · rw [if_pos e] at h
      rw [if_pos e.symm]
      exact lexL_asym xs ys h
    · rw [if_neg e] at h
      rw [if_neg (fun q => e q.symm)]
      have := of_decide_eq_true h
      exact decide_eq_false (by omega)
theorem lexL_tr : ∀ a b c : List Int, lexL b a = false → lexL c b = false → lexL c a = false
  | [], b, c, _, h2 => by
    cases c with
    | nil => rfl
    | cons z zs => rfl
  | x :: xs, [], c, h1, _ => nomatch h1
  | x :: xs, y :: ys, [], _, h2 => nomatch h2
  | x :: xs, y :: ys, z :: zs, h1, h2 => by
    have h1 : (if y = x then lexL ys xs else decide (y < x)) = false := h1
    have h2 : (if z = y then lexL zs ys else decide (z < y)) = false := h2
    show (if z = x then lexL zs xs else decide (z < x)) = false
    by_cases e1 : y = x
    · subst e1
      rw [if_pos rfl] at h1
      by_cases e2 : z = y
      · rw [if_pos e2] at h2 ⊢
        exact lexL_tr xs ys zs h1 h2
      · rw [if_neg e2] at h2 ⊢
        exact h2
    · rw [if_neg e1] at h1
      have q1 := of_decide_eq_false h1
      by_cases e2 : z = y
      · subst e2
        rw [if_neg e1]; exact h1
      · rw [if_neg e2] at h2
        have q2 := of_decide_eq_false h2
        rw [if_neg (by omega)]
        exact decide_eq_false (by omega)
theorem lexL_tot : ∀ a b : List Int, lexL a b = false → lexL b a = false → a = b
  | [], [], _, _ => rfl
  | [], _ :: _, h, _ => nomatch h
  | _ :: _, [], _, h => nomatch h
  | x :: xs, y :: ys, h1, h2 => by
    have h1 : (if x = y then lexL xs ys else decide (x < y)) = false := h1
    have h2 : (if y = x then lexL ys xs else decide (y < x)) = false := h2
    by_cases e : x = y
    · subst e
      rw [if_pos rfl] at h1 h2
      rw [lexL_tot xs ys h1 h2]
    · rw [if_neg e] at h1
      rw [if_neg (fun q => e q.symm)] at h2
      have := of_decide_eq_false h1
      have := of_decide_eq_false h2
      omega
section
variable {prog : Program} {w : World} {A : Around} {E : Value → Shared → Prop} {s : Shared}
theorem kat_lexL {b : Bool} {ps qs : List Value} {is js : List Int} (n : Nat) (hp : IntsAre ps is) (hq : IntsAre qs js) (he : is.length = js.length) : PySem.W.KatLex prog w A b false (fun r t => t = s ∧ r = lexL is js) (ps.zip qs) n s := by
  induction hp generalizing qs js n with
  | nil =>
    cases hq with
    | nil => exact PySem.W.kat_nil ⟨rfl, rfl⟩
    | cons q u hq => simp at he
  | @cons i t ps is hp ih =>
    cases hq with
    | nil => simp at he
    | @cons j u qs js hq =>
      show PySem.W.KatLex prog w A b false _ ((Value.int i t, Value.int j u) :: ps.zip qs) n s
      refine PySem.W.kat_cons (wpAny_eqBool_int ?_)
      have el : lexL (i :: is) (j :: js) = if i = j then lexL is js else decide (i < j) := rfl
      by_cases e : i = j
      · subst e
        rw [if_pos rfl] at el
        rw [beq_self_eq_true, el]
        exact PySem.W.kat_yes (ih (n + 1) hq (by simpa using he))
      · rw [if_neg e] at el
        rw [show (i == j) = false from beq_eq_false_iff_ne.mpr e, el]
        exact PySem.W.kat_no (TS.oneLt_ints _ ⟨rfl, rfl⟩)
theorem tups_cmp {us : List Value} {k : Value → List Int} {d : Nat} (hp : ∀ v ∈ us, TS.TupInts s.heap v (k v) ∧ (k v).length = d) : SrtO.Cmp prog w A s (tuples' true) (fun p => p.1 ∈ us) (SrtO.lt2 fun v u => lexL (k v) (k u)) := by
  intro p q h1 h2
  obtain ⟨⟨a, xs, ea, ⟨o, ho, _, n, hd⟩, ia⟩, la⟩ := hp _ h1
  obtain ⟨⟨b, ys, eb, ⟨u, hu, _, m, hm⟩, ib⟩, lb⟩ := hp _ h2
  show wpAny (model prog w) A (keyLt' (tuples' true) p.1 q.1) (fun r t => t = s ∧ r = lexL (k p.1) (k q.1)) (fun _ _ => False) s
  have sz : xs.size = ys.size := by
    have q1 := ia.length
    have q2 := ib.length
    rw [Array.length_toList] at q1 q2
    omega
  generalize k p.1 = kp at ia la ⊢
  generalize k q.1 = kq at ib lb ⊢
  rw [ea, eb]
  refine PySem.W.kat_lt ho hd hu hm ?_
  rw [show decide (xs.size < ys.size) = false from decide_eq_false (by omega)]
  exact kat_lexL 0 ia ib (by omega)
theorem tups_firsts {h : Heap} {k : Value → List Int} {d : Nat} (h1 : 1 ≤ d) : ∀ us : List Value, (∀ v ∈ us, TS.TupInts h v (k v) ∧ (k v).length = d) → ∃ fs, PySem.W.KatTups h us fs ∧ fs.length = us.length ∧ ∀ f ∈ fs, ∃ i t, f = Value.int i t
  | [], _ => ⟨[], .nil, rfl, fun _ m => nomatch m⟩
  | v :: us, x => by
    obtain ⟨fs, kt, hl, hi⟩ := tups_firsts h1 us fun u hu => x u (List.mem_cons_of_mem _ hu)
    obtain ⟨⟨a, xs, ea, ⟨o, ho, hc, n, hdt⟩, ia⟩, la⟩ := x v List.mem_cons_self
    obtain ⟨ys⟩ := xs
    cases ys with
    | nil =>
      have l := ia.length
      rw [la] at l
      have l : 0 = d := l
      omega
    | cons y ys =>
      obtain ⟨m, t, hy⟩ := ia.all y List.mem_cons_self
      subst ea
      refine ⟨y :: fs, .cons ho hc hdt rfl kt, by simp [hl], fun f hf => ?_⟩
      rcases List.mem_cons.mp hf with rfl | hf
      · exact ⟨m, t, hy⟩
      · exact hi f hf
theorem tups_sortable {a : Addr} {us : List Value} {k : Value → List Int} {d : Nat} (h1 : 1 ≤ d) (h0 : 0 < us.length) (hp : ∀ v ∈ us, TS.TupInts s.heap v (k v) ∧ (k v).length = d) (ha : ∀ o, s.heap.get? a = some o → o.cls ≠ .type "tuple") :
    SrtO.SortableO prog w A s a us fun v u => lexL (k v) (k u) := by
  intro h' keep
  have hp' : ∀ v ∈ us, TS.TupInts h' v (k v) ∧ (k v).length = d := fun v m => ⟨(hp v m).1.keeps fun b o e c => keep b o (fun z => by subst z; exact ha o e c) e, (hp v m).2⟩
  obtain ⟨fs, q1, q2, q3⟩ := tups_firsts h1 us hp'
  refine ⟨tuples' true, fun Q E hq => ?_, tups_cmp hp'⟩
  refine PySem.W.kat_kind (T := .type "int") q1 (by omega) (fun f m => ?_) (by rfl) ?_
  · obtain ⟨x, t, rfl⟩ := q3 f m
    exact PySem.W.Looks.now
  · rw [show (Value.type "int" != Value.type "tuple") = true from by decide +kernel]
    exact hq
theorem swoL {α : Type} (k : α → List Int) : SrtO.Swo fun v u => lexL (k v) (k u) := ⟨fun x y => lexL_asym _ _, fun x y z => lexL_tr _ _ _⟩
end
/-- sorted(xs), xs a list of tuples of d ints -/
def rSortedL (K : PySem.W.Frag) (d : Nat) : List V → Hp → VK → Prop := fun vs H Q => ∃ (a : Addr) (xs : List V), vs = [V.ref a] ∧ SqL K H a xs ∧ (∀ x ∈ xs, ∃ ns, TupI K H x ns ∧ ns.length = d) ∧
  ∀ (ys : List V) (p : Addr), ys.Perm xs → ys.Pairwise (fun x y => ∀ n m, TupI K H x n → TupI K H y m → lexL m n = false) → H p = none → Q (.ref p) (upd H p (.lst ys))
theorem zsorted {X : Cx} {K : PySem.W.Frag} {d : Nat} (hK : X.K = K) (h1 : 1 ≤ d) : CallR X (.builtin "sorted") (rSortedL K d) := by
  subst hK
  intro pins s σ H vs us Q I r h
  obtain ⟨a, xs, rfl, hs, hx, q⟩ := h
  obtain ⟨its, rv, hl, hz⟩ := I.list hs
  rw [Vals.ref1 r]
  obtain ⟨e1, e2⟩ := bkV_refs rv fun x m => by
    obtain ⟨ns, ⟨t, e, _⟩, _⟩ := hx x m
    exact ⟨t, e⟩
  have raw : ∀ v ∈ its, TS.TupInts s.heap v (TS.intsOf s.heap v) ∧ (TS.intsOf s.heap v).length = d := by
    intro v hv
    obtain ⟨t, rfl⟩ := e2 v hv
    have hm : V.ref t ∈ xs := by rw [e1]; exact List.mem_map.mpr ⟨_, hv, rfl⟩
    obtain ⟨ns, ⟨t', e, ht⟩, hn⟩ := hx _ hm
    cases e
    have q1 := tupI_raw I ht
    rw [q1.ints]
    exact ⟨q1, hn⟩
  refine SrtO.sorted_ord (ltv := fun v u => lexL (TS.intsOf s.heap v) (TS.intsOf s.heap u)) (swoL _) hl.isList (by rw [← rv.length]; exact hz) (fun h2 h₁ b hb kk => ?_) fun out o1 o2 => ?_
  · refine tups_sortable (s := { s with heap := h₁ }) (k := TS.intsOf s.heap) h1 (by omega) (fun v hm => ⟨(raw v hm).1.keeps fun c o e _ => (kk c o e).2, (raw v hm).2⟩) fun o e => ?_
    have e' := e.symm.trans hb
    cases e'
    exact fun c => absurd (Value.type.inj c) (by decide)
  · have h3 : ∀ u ∈ out, ∃ b, u = Value.ref b := fun u hu => e2 u (o2.perm.mem_iff.mp hu)
    obtain ⟨n, hn⟩ := PyProof.Rows.sortedAll_at s.heap its out.toArray
    have hpm : (out.map bkV).Perm xs := by rw [e1]; exact o2.perm.map _
    refine ⟨.ref (s.heap.objs.size + 1), upd H (s.heap.objs.size + 1) (.lst (out.map bkV)), I.laid (t' := s.toks) (fun b o e => PyProof.Rows.sortedAll_old e) (Nat.le_succ _) ⟨?_, out, n, bkV_vals h3, hn⟩, rfl, q _ _ hpm ?_ (I.hok.fresh (Nat.le_succ _))⟩
    · rw [hpm.length_eq]; exact hz
    · rw [List.pairwise_map]
      refine List.Pairwise.imp (fun {u v} huv nn mm h4 h5 => ?_) o1
      obtain ⟨t1, g1, k1⟩ := h4
      obtain ⟨t2, g2, k2⟩ := h5
      have w1 := tupI_raw I k1
      have w2 := tupI_raw I k2
      rw [← bkV_ref g1] at w1
      rw [← bkV_ref g2] at w2
      rw [← w1.ints, ← w2.ints]
      exact huv
/-! ### by data -/
class Ktup (α : Type) [Py α] where
  key : α → List Int
  d : Nat
  pos : 1 ≤ d
  len : ∀ x, (key x).length = d
  py : ∀ x : α, toPy x = .tuple ((key x).map PyData.int)
  inj : ∀ x y, key x = key y → x = y
instance : Ktup (Int × Int) := ⟨fun x => [x.1, x.2], 2, by decide, fun _ => rfl, fun _ => rfl, fun x y h => by
  obtain ⟨a, b⟩ := x
  obtain ⟨c, d⟩ := y
  simpa using h⟩
instance : Ktup (P3 Int Int Int) := ⟨fun x => [x.a, x.b, x.c], 3, by decide, fun _ => rfl, fun _ => rfl, fun x y h => by
  obtain ⟨a, b, c⟩ := x
  obtain ⟨d, e, f⟩ := y
  simpa using h⟩
instance : Ktup (P4 Int Int Int Int) := ⟨fun x => [x.a, x.b, x.c, x.d], 4, by decide, fun _ => rfl, fun _ => rfl, fun x y h => by
  obtain ⟨a, b, c, d⟩ := x
  obtain ⟨e, f, g, i⟩ := y
  simpa using h⟩
section
variable {α : Type} [Py α] [Ktup α] {K : PySem.W.Frag} {H Ho : Hp}
def leK (x y : α) : Bool := !lexL (Ktup.key y) (Ktup.key x)
def srtK (xs : List α) : List α := xs.mergeSort leK
theorem leK_tr (x y z : α) (h1 : leK x y = true) (h2 : leK y z = true) : leK x z = true := by
  unfold leK at *
  simp only [Bool.not_eq_true'] at *
  exact lexL_tr _ _ _ h1 h2
theorem leK_tot (x y : α) : (leK x y || leK y x) = true := by
  unfold leK
  cases h : lexL (Ktup.key y) (Ktup.key x) with
  | false => rfl
  | true => rw [lexL_asym _ _ h]; rfl
theorem leK_anti (x y : α) (h1 : leK x y = true) (h2 : leK y x = true) : x = y := by
  unfold leK at *
  simp only [Bool.not_eq_true'] at *
  exact Ktup.inj _ _ (lexL_tot _ _ h2 h1)
theorem srt_uniq : ∀ {l m : List α}, l.Perm m → l.Pairwise (fun x y => leK x y = true) → m.Pairwise (fun x y => leK x y = true) → l = m
  | [], m, hp, _, _ => (List.Perm.nil_eq hp)
  | x :: l, [], hp, _, _ => absurd hp.length_eq (by simp)
  | x :: l, y :: m, hp, h1, h2 => by
    have e : x = y := by
      rcases List.mem_cons.mp (hp.mem_iff.mp (List.mem_cons_self (a := x) (l := l))) with e | hx
      · exact e
      rcases List.mem_cons.mp (hp.mem_iff.mpr (List.mem_cons_self (a := y) (l := m))) with e | hy
      · exact e.symm
      exact leK_anti x y ((List.pairwise_cons.mp h1).1 y hy) ((List.pairwise_cons.mp h2).1 x hx)
    subst e
    rw [srt_uniq hp.cons_inv (List.pairwise_cons.mp h1).2 (List.pairwise_cons.mp h2).2]
theorem srtK_perm (xs : List α) : (srtK xs).Perm xs := List.mergeSort_perm xs leK
theorem srtK_srt (xs : List α) : (srtK xs).Pairwise (fun x y => leK x y = true) := List.pairwise_mergeSort leK_tr leK_tot xs
theorem srtK_of {xs ys : List α} (h : ys.Perm xs) (hs : ys.Pairwise (fun x y => leK x y = true)) : ys = srtK xs := srt_uniq (h.trans (srtK_perm xs).symm) hs (srtK_srt xs)
theorem srtK_eq {xs ys : List α} (h : ys.Perm xs) : srtK ys = srtK xs := srtK_of ((srtK_perm ys).trans h) (srtK_srt ys)
theorem DL.perm {vs us : List V} (hp : us.Perm vs) : ∀ {xs : List α}, DL K H vs xs → ∃ ys, ys.Perm xs ∧ DL K H us ys := by
  induction hp with
  | nil => exact fun {xs} h => ⟨xs, List.Perm.refl _, h⟩
  | cons v _ ih =>
    intro xs h
    cases xs with
    | nil => cases h
    | cons x xs =>
      cases h with
      | cons h1 h2 =>
        obtain ⟨ys, p, q⟩ := ih h2
        exact ⟨x :: ys, p.cons x, .cons h1 q⟩
  | swap u v l =>
    intro xs h
    cases xs with
    | nil => cases h
    | cons x xs =>
      cases xs with
      | nil => cases h with | cons _ h2 => cases h2
      | cons y xs =>
        cases h with
        | cons h1 h2 =>
          cases h2 with
          | cons h2 h3 => exact ⟨y :: x :: xs, List.Perm.swap _ _ _, .cons h2 (.cons h1 h3)⟩
  | trans _ _ ih1 ih2 =>
    intro xs h
    obtain ⟨ys, p, q⟩ := ih2 h
    obtain ⟨zs, p2, q2⟩ := ih1 q
    exact ⟨zs, p2.trans p, q2⟩
theorem dints_all : ∀ {vs : List V} {is : List Int}, DqAll K H vs (is.map PyData.int) → vs = is.map V.int
  | vs, [], h => by cases h; rfl
  | vs, i :: is, h => by
    cases h with
    | cons h1 h2 =>
      cases h1
      rw [dints_all h2]; rfl
theorem tupI_of {v : V} {x : α} (h : D K H v x) : TupI K H v (Ktup.key x) := by
  have h : Dq K H v (toPy x) := h
  rw [Ktup.py] at h
  cases h with
  | tup hs ha =>
    rw [dints_all ha] at hs
    exact ⟨_, rfl, SqT.of hs⟩
theorem dl_pw {us : List V} : ∀ {ys : List α}, DL K H us ys → us.Pairwise (fun x y => ∀ n m, TupI K H x n → TupI K H y m → lexL m n = false) → ys.Pairwise (fun x y => leK x y = true) := by
  induction us with
  | nil =>
    intro ys h _
    cases ys with
    | nil => exact .nil
    | cons y ys => cases h
  | cons u us ih =>
    intro ys h hp
    cases ys with
    | nil => cases h
    | cons y ys =>
      cases h with
      | cons h1 h2 =>
        obtain ⟨p1, p2⟩ := List.pairwise_cons.mp hp
        refine List.pairwise_cons.mpr ⟨fun z hz => ?_, ih h2 p2⟩
        obtain ⟨i, hi⟩ := List.mem_iff_getElem?.mp hz
        obtain ⟨t, ht, dt⟩ := DL.get h2 hi
        have q := p1 t (List.mem_of_getElem? ht) _ _ (tupI_of h1) (tupI_of dt)
        unfold leK
        rw [q]; rfl
theorem y_sortK {rs : List (Addr × HO)} {v : V} {Q : VK} {xs : List α} (d1 : LV K rs Ho v xs) (z : Zs rs H Ho) (k : ∀ H' p ws, Zs ((p, .lst ws) :: rs) H' Ho → DL K Ho ws (srtK xs) → Q (.ref p) H') : rSortedL K (Ktup.d α) [v] H Q := by
  obtain ⟨p, vs, rfl, d, s⟩ := LV.rd d1 z
  have dH : DL K H vs xs := DL.mo d z.le
  refine ⟨p, vs, rfl, s, fun u hu => ?_, fun us q hp hpw hq => ?_⟩
  · obtain ⟨i, hi⟩ := List.mem_iff_getElem?.mp hu
    obtain ⟨y, hy, dy⟩ := DL.item dH hi
    exact ⟨_, tupI_of dy, Ktup.len y⟩
  · obtain ⟨ys, pe, dy⟩ := DL.perm hp d
    have dyH : DL K H us ys := DL.mo dy z.le
    have e : ys = srtK xs := srtK_of pe (dl_pw dyH hpw)
    subst e
    exact k _ q us (z.root hq) dy
end
section
variable {K : PySem.W.Frag} {rs : List (Addr × HO)} {H Ho : Hp} {α β γ δ : Type} [Py α] [Py β] [Py γ] [Py δ] {v u : V} {Q : VK}
theorem y_cat22 {a : α × β} {b : γ × δ} (d1 : D K Ho v a) (d2 : D K Ho u b) (z : Zs rs H Ho) (k : ∀ p H' Ho', Same Ho Ho' → Zs rs H' Ho' → D K Ho' (.ref p) (⟨a.1, a.2, b.1, b.2⟩ : P4 α β γ δ) → Q (.ref p) H') : rCatT K v u H Q := by
  cases d1 with
  | tup hs ha =>
    cases d2 with
    | tup ht hb =>
      cases ha with
      | cons a1 a2 =>
        cases a2 with
        | cons a2 a3 =>
          cases a3
          cases hb with
          | cons b1 b2 =>
            cases b2 with
            | cons b2 b3 =>
              cases b3
              refine ⟨_, _, _, _, rfl, rfl, SqT.of (z.le _ _ hs), SqT.of (z.le _ _ ht), by simp, by show 4 ≤ sizeLine; decide, fun e => (nomatch e), fun _ q hq => ?_⟩
              exact k _ _ _ (Same.new (z.free hq)) (z.alloc hq) (.tup upd_same (.cons (dp_mono (Same.new (z.free hq)) _ _ a1) (.cons (dp_mono (Same.new (z.free hq)) _ _ a2) (.cons (dp_mono (Same.new (z.free hq)) _ _ b1) (.cons (dp_mono (Same.new (z.free hq)) _ _ b2) .nil)))))
end
theorem zop_catT {X : Cx} {K : PySem.W.Frag} (hK : X.K = K) : OpR X (binaryOp .Add) (rCatT K) := hK ▸ op_catT
end Z

/-! # Y4: the machine's rules, the written part by its own letter; isinstance -/
namespace Z
open PySem PySem.Spec PyProof.Rows L2
section
variable {α : Type} [Py α]
/-! ### isinstance: the kind is known -/
class Kin (β : Type) [Py β] where
  ty : String
  ok : ∀ {K : PySem.W.Frag} {H : Hp} {v : V} {x : β}, D K H v x → TyX K H v (.type ty)
theorem tyx_list {K : PySem.W.Frag} {H : Hp} {p : Addr} {vs : List V} (h : SqL K H p vs) : TyX K H (.ref p) (.type "list") := by
  rcases h with (h | ⟨o, h⟩) | ⟨o, its, n, h, hc, _⟩
  · exact .base (.lst h)
  · exact .base (.frz h)
  · exact .kList h hc
theorem tyx_tup {K : PySem.W.Frag} {H : Hp} {p : Addr} {vs : List V} (h : SqT K H p vs) : TyX K H (.ref p) (.type "tuple") := by
  rcases h with (h | ⟨o, h⟩) | ⟨o, its, n, h, hc, _⟩
  · exact .base (.tup h)
  · exact .fTuple h
  · exact .kTuple h hc
theorem dp_list {K : PySem.W.Frag} {H : Hp} {v : V} {ds : List PyData} (h : Dq K H v (.list ds)) : TyX K H v (.type "list") := by
  cases h with
  | lst hs _ => exact tyx_list hs
theorem dp_tup {K : PySem.W.Frag} {H : Hp} {v : V} {ds : List PyData} (h : Dq K H v (.tuple ds)) : TyX K H v (.type "tuple") := by
  cases h with
  | tup hs _ => exact tyx_tup (SqT.of hs)
instance : Kin Int := ⟨"int", fun d => by rw [d_int d]; exact .base (.int _)⟩
instance : Kin Bool := ⟨"bool", fun d => by rw [d_bool d]; exact .base (.bl _)⟩
instance : Kin Str := ⟨"str", fun d => by rw [d_str d]; exact .base (.str _)⟩
instance : Kin Unit := ⟨"NoneType", fun d => by cases d; exact .base .non⟩
instance : Kin (List α) := ⟨"list", fun d => dp_list d⟩
instance : Kin (Tp α) := ⟨"tuple", fun d => dp_tup d⟩
instance {β γ : Type} [Py β] [Py γ] : Kin (β × γ) := ⟨"tuple", fun d => dp_tup d⟩
instance {β γ δ : Type} [Py β] [Py γ] [Py δ] : Kin (P3 β γ δ) := ⟨"tuple", fun d => dp_tup d⟩
instance {β γ δ ε : Type} [Py β] [Py γ] [Py δ] [Py ε] : Kin (P4 β γ δ ε) := ⟨"tuple", fun d => dp_tup d⟩
section
variable {K : PySem.W.Frag} {H : Hp} {v : V} {Q : VK} {σ : L2.St}
theorem y_isi {β : Type} [Py β] [Kin β] {x : β} {T : String} {b : Bool} (d : D K H v x) (hb : kitB (Kin.ty β) T = some b) (k : Q (.bl b) H) : rIsi K [v, .ty T] H Q :=
  ⟨v, .ty T, _, .type T, b, rfl, .ty T, Kin.ok d, kit_ty hb, k⟩
theorem y_isiO {β : Type} [Py β] [Kin β] {x : Option β} {T : String} {b b' : Bool} (d : D K H v x) (hb : kitB (Kin.ty β) T = some b) (hb' : kitB "NoneType" T = some b') (k : Q (.bl (if x.isSome then b else b')) H) : rIsi K [v, .ty T] H Q := by
  cases x with
  | none =>
    cases d
    exact ⟨_, .ty T, _, .type T, b', rfl, .ty T, .base .non, kit_ty hb', k⟩
  | some x => exact ⟨v, .ty T, _, .type T, b, rfl, .ty T, Kin.ok (x := x) d, kit_ty hb, k⟩
end
end
section
variable {X : Cx} {K : PySem.W.Frag}
theorem zix_list (hK : X.K = K) : IxR X (rIxL K) := hK ▸ ix_list
theorem zix_tup (hK : X.K = K) : IxR X (rIxT K) := hK ▸ ix_tup
theorem zget_list (hK : X.K = K) : PGet X (rIxL K) := hK ▸ get_list
theorem zsl_list (hK : X.K = K) : SlR X (rSlL K) := hK ▸ sl_list
theorem zop_catS (hK : X.K = K) : OpR X (binaryOp .Add) (rCatS K) := hK ▸ op_catS
theorem zop_eqD (hK : X.K = K) (hu : X.A.units + 64 < cLine) : OpR X (compareOp .Eq) (rEqD K) := hK ▸ op_eqD hu
theorem zop_neD (hK : X.K = K) (hu : X.A.units + 64 < cLine) : OpR X (compareOp .NotEq) (rNeD K) := hK ▸ op_neD hu
theorem zlen (hK : X.K = K) : CallR X (.builtin "len") (rLenZ K) := hK ▸ call_len_seq
theorem zlist (hK : X.K = K) : CallR X (.type "list") (rListZ K) := hK ▸ call_list_of
theorem zisi (hK : X.K = K) : CallR X (.builtin "isinstance") (rIsi K) := hK ▸ call_isi
theorem zall (hK : X.K = K) (hc : X.calm = true) : CallR X (.builtin "all") (rAll K) := hK ▸ cr_all hc
theorem zany (hK : X.K = K) (hc : X.calm = true) : CallR X (.builtin "any") (rAny K) := hK ▸ cr_any hc
theorem zpi_list {tg l : Expr} {tl : TE} (hK : X.K = K) (hl : PE X l tl) : PI X tg l (iList K tl) := hK ▸ pi_list hl
theorem zpi_tup {tg l : Expr} {tl : TE} (hK : X.K = K) (hl : PE X l tl) : PI X tg l (iTup K tl) := hK ▸ pi_tup hl
theorem zsum (hK : X.K = K) (hc : X.calm = true) : CallR X (.builtin "sum") (rSum K) := hK ▸ cr_sum hc
theorem zsortI (hK : X.K = K) : CallR X (.builtin "sorted") (rSortedI K) := hK ▸ cr_sortedI
theorem zop_inD (hK : X.K = K) (hu : X.A.units + 65 < cLine) : OpR X (compareOp .In) (rInD K) := hK ▸ op_inD hu
theorem zop_notInD (hK : X.K = K) (hu : X.A.units + 65 < cLine) : OpR X (compareOp .NotIn) (rNotInD K) := hK ▸ op_notInD hu
end
theorem zpg_tup {X : Cx} {K : PySem.W.Frag} {es : List Expr} {k : Nat} {t : TGs} {n : Nat} {pos : Pos} (hK : X.K = K) (hc : X.calm = true) (h : PGs X es t)
    (hn : (assignEach es X.env).length = n := by rfl) (hst : (assignEach es X.env).findIdx? (·.1) = none := by rfl) : PG X (.Tuple es k pos) (gTup K n t) := hK ▸ pg_tup hc h hn hst
/-- a def that stands at f under the name x -/
structure Cal (P : Program) (w : World) (K : PySem.W.Frag) (mg : Str → Option Value) (base : Heap) (CX : CXT) (x : Str) (ps : List Str) (k : Nat) (sp : Sp) (f : Addr) (fd : FuncData) : Prop where
  ok : FnOk P w K mg base CX k f fd ps sp
  g : mg x = some (.ref f)
  kp : PySem.W.keepIn K (.ref f) = true
  b : Binds K fd ps []
section
variable {X : Cx} {K : PySem.W.Frag} {x n m : Str} {c : Value} {C : Addr} {i : Nat} {body suite : List Stmt} {b₀ : Stmt} {p p2 np pos pos' : Pos} {j : Nat} {tb : WX → TS} {ts : Addr → Value → Option Addr → TS} {W Wout : WX} {bmB : List Value} {B newId initId : String}
theorem zps_try_as (hK : X.K = K) (hs : X.stack = X.env :: X.outer) (hf : X.env.frame = some X.env.locals) (hN : X.N.Nodup) (hi : X.N[i]? = some n) (hln : X.env.kindOf n = some .local) (hc : Names X x c) (tk : Takes X Wout)
    (hb : ∀ (W : WX) (pn : List (Addr × Obj)) (xe : Value → Shared → Prop), Takes (X.tr pn xe) W → PassesOwn (model X.prog X.w) X.A X.env xe → PSs (X.tr pn xe) body (tb W))
    (hsu : ∀ (a : Addr) (oe : Obj) (cls : Value) (d : Option Addr) (pn : List (Addr × Obj)), Zc cls d oe → (∃ vs, oe.data = .fields vs) → PSs (X.suite a ((a, oe) :: pn)) (b₀ :: suite) (ts a cls d)) :
    PS X (.Try body [.ExceptHandler (some (.Name x np)) (some n) (b₀ :: suite) pos'] [] [] pos) (tTryAs K c i tb ts Wout) := hK ▸ ps_try_as hs hf hN hi hln hc tk hb hsu
theorem zps_try_only (hK : X.K = K) (hs : X.stack = X.env :: X.outer) (hf : X.env.frame = some X.env.locals) (hc : Names X x c) (tk : Takes X Wout)
    (hb : ∀ (W : WX) (pn : List (Addr × Obj)) (xe : Value → Shared → Prop), Takes (X.tr pn xe) W → PassesOwn (model X.prog X.w) X.A X.env xe → PSs (X.tr pn xe) body (tb W))
    (hsu : ∀ (a : Addr) (oe : Obj) (cls : Value) (d : Option Addr) (pn : List (Addr × Obj)), Zc cls d oe → (∃ vs, oe.data = .fields vs) → PSs (X.suite a ((a, oe) :: pn)) (b₀ :: suite) (ts a cls d)) :
    PS X (.Try body [.ExceptHandler (some (.Name x np)) none (b₀ :: suite) pos'] [] [] pos) (tTryOnly K c tb ts Wout) := hK ▸ ps_try_only hs hf hc tk hb hsu
theorem zps_raise (hK : X.K = K) (hc : X.calm = true) (tk : Takes X W) (q : PySem.W.excIn K C [.type "ValueError", .type "Exception", .type "BaseException", .type "object"] "ValueError.__new__" = true) (gC : X.mg x = some (.ref C)) (kC : PySem.W.keepIn K (.ref C) = true)
    (h1 : PySem.W.subIn K (.ref C) (.type "BaseException") = some true) (h2 : PySem.W.typeIn K (.ref C) = some (.type "type")) (hg : Gl X x) (hdb : (x == ("__debug__" : Str)) = false := by decide) :
    PS X (.Raise (some (.Call (.Name x p) [.Constant (.str m) j p2] [] pos)) none pos') (tRaise C W) := by
  subst hK
  exact ps_raise hc tk (pmk_own PySem.F.excBase_ValueError q gC kC (raises_own h1 h2) hg hdb)
/-- isinstance of the error that the suite holds -/
def rIsX (K : PySem.W.Frag) (a : Addr) (cls : Value) (d : Option Addr) : List V → Hp → VK → Prop := fun xs H Q => ∃ (D : Addr) (c : V) (cv : Value) (b : Bool), cls = .ref D ∧ d = none ∧ xs = [.ref a, c] ∧ ClsV c cv ∧ ExcC K D ∧ PySem.W.kitOne K (.ref D) cv = some b ∧ Q (.bl b) H
def rIsXT (K : PySem.W.Frag) (a : Addr) (cls : Value) (d : Option Addr) : List V → Hp → VK → Prop := fun xs H Q => ∃ (D : Addr) (tp : Addr) (cs : List V) (us : List Value) (b : Bool), cls = .ref D ∧ d = none ∧ xs = [.ref a, .ref tp] ∧ H tp = some (.tup cs) ∧ Paired ClsV cs us ∧ ExcC K D ∧ PySem.W.kitAny K (.ref D) us = some b ∧ Q (.bl b) H
theorem inst_at {X : Cx} {pins : List (Addr × Obj)} {σ : L2.St} {H : Hp} {s : Shared} {a D : Addr} {oe : Obj} {pn : List (Addr × Obj)} (hz : Zc (.ref D) none oe) (hf : ∃ vs, oe.data = .fields vs) (I : Inv (X.suite a ((a, oe) :: pn)) pins σ H s) : PySem.W.InstAt s.heap a oe D none := by
  have hget := (I.pin (a, oe) (List.mem_append.mpr (.inl List.mem_cons_self))).1
  obtain ⟨vs, hv⟩ := hf
  obtain ⟨oc, od, oda, osl⟩ := oe
  obtain ⟨h1, h2⟩ := hz
  dsimp only at h1 h2 hv
  subst h1 h2 hv
  exact ⟨hget, rfl, rfl, trivial⟩
theorem zisX {a : Addr} {cls : Value} {d : Option Addr} {oe : Obj} {pn : List (Addr × Obj)} (hK : X.K = K) (hz : Zc cls d oe) (hf : ∃ vs, oe.data = .fields vs) : CallR (X.suite a ((a, oe) :: pn)) (.builtin "isinstance") (rIsX K a cls d) := by
  subst hK
  intro pins s σ H xs us Q I r h
  obtain ⟨D, c, cv, b, rfl, rfl, rfl, hcv, C, e, q⟩ := h
  obtain ⟨u1, u2, rfl, r1, r2⟩ := vals2 r
  cases (show u1 = Value.ref a from r1)
  have ec := hcv.eq r2
  subst ec
  exact PySem.W.kia_one (PySem.W.handS_kitx_exc C.hg C.hk C.hs C.hd C.ha C.hn C.ht C.hm) I.kIn (inst_at hz hf I) e (fun z => nomatch z) fun tk => ⟨.bl b, H, I.tok tk, rfl, q⟩
theorem zisXT {a : Addr} {cls : Value} {d : Option Addr} {oe : Obj} {pn : List (Addr × Obj)} (hK : X.K = K) (hz : Zc cls d oe) (hf : ∃ vs, oe.data = .fields vs) : CallR (X.suite a ((a, oe) :: pn)) (.builtin "isinstance") (rIsXT K a cls d) := by
  subst hK
  intro pins s σ H xs us Q I r h
  obtain ⟨D, tp, cs, ws, b, rfl, rfl, rfl, hT, k, C, e, q⟩ := h
  obtain ⟨u1, u2, rfl, r1, r2⟩ := vals2 r
  cases (show u1 = Value.ref a from r1)
  cases (show u2 = Value.ref tp from r2)
  obtain ⟨_, its, rv, o, h1, h2, n, h3⟩ := (show ObjOk X.prog X.w H s.heap tp (.tup cs) from I.hok tp _ hT)
  have e3 := ClsV.all k rv
  subst e3
  obtain ⟨oc, od, dt, sl⟩ := o
  simp only at h2 h3
  subst h2 h3
  exact PySem.W.kia_tup (PySem.W.handS_kitx_exc C.hg C.hk C.hs C.hd C.ha C.hn C.ht C.hm) I.kIn (inst_at hz hf I) h1 e (fun z => nomatch z) fun tk => ⟨.bl b, H, I.tok tk, rfl, q⟩
end
section
variable {σ : L2.St} {H : Hp} {K : PySem.W.Frag}
inductive TCs : TA → List V → Prop where
  | nil : TCs tNil []
  | cons {v : V} {vs : List V} {t : TA} (h : TCs t vs) : TCs (tCons (tC v) t) (v :: vs)
theorem TCs.run {t : TA} {vs : List V} (h : TCs t vs) : ∀ {σ : L2.St} {H : Hp} {Q : List V → Hp → Prop}, Q vs H → t σ H Q := by
  induction h with
  | nil => exact fun q => q
  | cons h ih => exact fun q => ih q
theorem y_isX {cl : Nat → Addr} {n : Nat} {a : Addr} {Q : VK} {v : V} {cv : Value} {b : Bool} (xc : ExcC K (cl n)) (k : ClsV v cv) (e : PySem.W.kitOne K (.ref (cl n)) cv = some b) (q : Q (.bl b) H) : rIsX K a (.ref (cl n)) none [.ref a, v] H Q :=
  ⟨cl n, v, cv, b, rfl, rfl, rfl, k, xc, e, q⟩
theorem y_isXT {cl : Nat → Addr} {n : Nat} {a : Addr} {Q : VK} {rs : List (Addr × HO)} {Ho : Hp} {vs : List V} {us : List Value} {b : Bool} {ts : TA} (z : Zs rs H Ho) (xc : ExcC K (cl n)) (ht : TCs ts vs) (k : Paired ClsV vs us) (e : PySem.W.kitAny K (.ref (cl n)) us = some b) (q : ∀ H' Ho', Same Ho Ho' → Zs rs H' Ho' → Q (.bl b) H') (hl : vs.length ≤ sizeLine := by decide) :
    tTup ts σ H fun x H1 => rIsXT K a (.ref (cl n)) none [.ref a, x] H1 Q := by
  refine ht.run ⟨hl, fun p hp => ?_⟩
  have e3 : Same Ho (upd Ho p (.tup vs)) := Same.new (z.free hp)
  exact ⟨cl n, p, vs, us, b, rfl, rfl, rfl, upd_same, k, xc, e, q _ _ e3 (z.alloc hp)⟩
theorem kitAny_or {t c : Value} {cs : List Value} {b r : Bool} (h : PySem.W.kitOne K t c = some b) (hr : PySem.W.kitAny K t cs = some r) : PySem.W.kitAny K t (c :: cs) = some (b || r) := by
  refine kitAny_cons h (fun e => ?_) (fun e => by rw [e]; rfl)
  rw [e]; exact hr
end

section
variable {X : Cx} {K : PySem.W.Frag} {tg e e2 : Expr} {ta : TA} {p pos tpos : Pos} {elts : List Expr} {kk : Nat}
theorem zpi_zip (hK : X.K = K) (hg : Gl X "zip") (hm : X.mg "zip" = none) (ha : PA X [e, e2] ta)
    (hs : starEach [e, e2] X.env = (false, eval e X.env) :: starEach [e2] X.env := by rfl) (hpl : (backTo pos (starEach [e2] X.env)).any (·.1) = false := by rfl) :
    PI X (.Tuple elts kk tpos) (.Call (.Name "zip" p) [e, e2] [] pos) (iZip K ta) := hK ▸ pi_zip hg hm ha hs hpl
theorem zpi_enum (hK : X.K = K) (hg : Gl X "enumerate") (hm : X.mg "enumerate" = none) (ha : PA X [e] ta) (hs : starEach [e] X.env = [(false, eval e X.env)] := by rfl) :
    PI X (.Tuple elts kk tpos) (.Call (.Name "enumerate" p) [e] [] pos) (iEnum K ta) := hK ▸ pi_enum hg hm ha hs
end
theorem zpi_rev {X : Cx} {K : PySem.W.Frag} {tg e : Expr} {ta : TA} {p pos : Pos} (hK : X.K = K) (hg : Gl X "reversed") (hm : X.mg "reversed" = none) (ha : PA X [e] ta) (hs : starEach [e] X.env = [(false, eval e X.env)] := by rfl) : PI X tg (.Call (.Name "reversed" p) [e] [] pos) (iRev K ta) := hK ▸ pi_reversed hg hm ha hs
end Z

/-! # Yg: what is one's own, by groups of roots -/
namespace Z
open PySem PySem.Spec PyProof.Rows L2
abbrev Grp := List (Addr × HO)
/-- groups, in a row, ahead of the rest -/
def rowG (gs : List Grp) (amb : Grp) : Grp := gs.foldr (· ++ ·) amb
theorem rowG_eq (gs : List Grp) (amb : Grp) : rowG gs amb = gs.flatten ++ amb := by
  induction gs with
  | nil => rfl
  | cons g gs ih => show g ++ rowG gs amb = _; rw [ih, List.flatten_cons, List.append_assoc]
theorem mg0 {g R : Grp} : ∀ r ∈ g, r ∈ g ++ R := fun _ h => List.mem_append_left _ h
theorem mgS {g h R : Grp} (k : ∀ r ∈ g, r ∈ R) : ∀ r ∈ g, r ∈ h ++ R := fun r m => List.mem_append_right _ (k r m)
theorem room65 {k : Nat} {A : Around} (r : Room k A) : A.units + 65 < cLine := by have := r.un; omega
theorem mgN {rs : Grp} : ∀ r ∈ ([] : Grp), r ∈ rs := fun _ m => nomatch m
theorem mgE {g : Grp} : ∀ r ∈ g, r ∈ g := fun _ h => h
section
variable {K : PySem.W.Frag} {H Ho H' Ho' : Hp} {rs : Grp}
theorem sel_nodup {α β : Type} (f : α → β) (l : List (List α)) (is : List Nat) (hn : is.Nodup) (h : (l.flatten.map f).Nodup) : ((is.filterMap fun i => l[i]?).flatten.map f).Nodup := by
  rw [List.map_flatten] at h ⊢
  unfold List.Nodup at h ⊢
  rw [List.pairwise_flatten] at h ⊢
  have sub : ∀ g ∈ (is.filterMap fun i => l[i]?), g ∈ l := fun r hr => by
    obtain ⟨i, _, e⟩ := List.mem_filterMap.mp hr
    exact List.mem_of_getElem? e
  refine ⟨fun g hg => ?_, ?_⟩
  · obtain ⟨r, hr, rfl⟩ := List.mem_map.mp hg
    exact h.1 _ (List.mem_map.mpr ⟨r, sub r hr, rfl⟩)
  · rw [List.pairwise_map]
    have h2 := h.2
    rw [List.pairwise_map] at h2
    refine List.Pairwise.filterMap _ (fun i j hij a ha b hb => ?_) hn
    rw [List.pairwise_iff_getElem] at h2
    have hl1 := (List.getElem?_eq_some_iff.mp ha)
    have hl2 := (List.getElem?_eq_some_iff.mp hb)
    obtain ⟨hi, rfl⟩ := hl1
    obtain ⟨hj, rfl⟩ := hl2
    rcases Nat.lt_or_gt_of_ne hij with c | c
    · exact h2 i j hi hj c
    · exact fun x hx y hy e => h2 j i hj hi c y hy x hx e.symm
/-- some of the groups, in any order -/
theorem Zs.go {rs rs' : Grp} (gs : List Grp) (amb : Grp) (is : List Nat) (z : Zs rs H Ho) (h1 : rs = rowG gs amb := by rfl) (h2 : rs' = rowG (is.filterMap fun i => gs[i]?) amb := by rfl) (hn : is.Nodup := by decide) : Zs rs' H Ho := by
  subst h1 h2
  rw [rowG_eq] at z ⊢
  have sub : ∀ r ∈ (is.filterMap fun i => gs[i]?).flatten, r ∈ gs.flatten := fun r hr => by
    obtain ⟨g, hg, hr⟩ := List.mem_flatten.mp hr
    obtain ⟨i, _, e⟩ := List.mem_filterMap.mp hg
    exact List.mem_flatten.mpr ⟨g, List.mem_of_getElem? e, hr⟩
  refine ⟨z.le, fun r hr => z.rt r ?_, ?_⟩
  · rcases List.mem_append.mp hr with h | h
    · exact List.mem_append_left _ (sub r h)
    · exact List.mem_append_right _ h
  · have nd := z.nd
    rw [List.map_append, List.nodup_append] at nd ⊢
    refine ⟨sel_nodup _ gs is hn nd.1, nd.2.1, fun a ha b hb e => ?_⟩
    obtain ⟨r, hr, rfl⟩ := List.mem_map.mp ha
    exact nd.2.2 _ (List.mem_map.mpr ⟨r, sub r hr, rfl⟩) b hb e
end
/-! ### ways, without data -/
section
variable {α β γ : Type} {Φ : γ → Prop}
theorem run_gd {p : Prop} {c : W γ} (h : (W.guard p c).run Φ) : p ∧ c.run Φ := h
theorem run_opt' {o : Option β} {f : β → W γ} (h : (W.bind (W.opt o) f).run Φ) : ∃ a, o = some a ∧ (f a).run Φ := h
theorem run_itT {A B : W γ} {b : Bool} (h : (W.ite b A B).run Φ) (e : b = true) : A.run Φ := h.1 e
theorem run_itF {A B : W γ} {b : Bool} (h : (W.ite b A B).run Φ) (e : b = false) : B.run Φ := h.2 e
theorem run_bret {e : β} {f : β → W γ} (h : (W.bind (W.ret e) f).run Φ) : (f e).run Φ := h
theorem w_two {b : Bool} {X Y : Prop} (h1 : b = true → X) (h2 : b = false → Y) : if b = true then X else Y := by
  cases b with
  | true => exact iteT (h1 rfl)
  | false => exact iteF (h2 rfl)
theorem exm_mono {c : W (Ex β)} {N N' : β → Prop} {X X' : Er → Prop} (h : c.run (ExP N X)) (h1 : ∀ a, N a → N' a) (h2 : ∀ e, X e → X' e) : c.run (ExP N' X') :=
  c.mono _ _ (fun r hr => by cases r with | ok a => exact h1 a hr | er e => exact h2 e hr) h
theorem run_mono' {c : W β} {N N' : β → Prop} (h : c.run N) (k : ∀ a, N a → N' a) : c.run N' := c.mono _ _ k h
theorem run_mono2 {c : W (α × β)} {f : α → β → W γ} {N : α × β → Prop} (hw : (W.bind2 c f).run Φ) (k : ∀ a b, (f a b).run Φ → N (a, b)) : c.run N := c.mono _ _ (fun r h => k r.1 r.2 h) hw
theorem run_b {c : W β} {f : β → W γ} (h : (W.bind c f).run Φ) : c.run fun a => (f a).run Φ := h
theorem run_b2 {c : W (α × β)} {f : α → β → W γ} (h : (W.bind2 c f).run Φ) : c.run fun r => (f r.1 r.2).run Φ := h
end
/-! ### lists of data of one's own -/
section
variable {K : PySem.W.Frag} {H Ho H' Ho' : Hp} {α β γ : Type} [Py α] [Py β] {Φ : γ → Prop} {R : Grp} {v w : V} {Q : VK}
def OL (K : PySem.W.Frag) (Ho : Hp) (v : V) (xs : List α) (g : Grp) : Prop := ∃ p vs, v = .ref p ∧ DL K Ho vs xs ∧ g = [(p, .lst vs)]
theorem OL.mo {v : V} {xs : List α} {g : Grp} (h : OL K Ho v xs g) (e : Same Ho Ho') : OL K Ho' v xs g := by
  obtain ⟨p, vs, rfl, d, rfl⟩ := h
  exact ⟨p, vs, rfl, DL.mo d e, rfl⟩
theorem OL.mk {p : Addr} {ws : List V} {xs : List α} (d : DL K Ho ws xs) : OL K Ho (.ref p) xs [(p, .lst ws)] := ⟨p, ws, rfl, d, rfl⟩
theorem OL.lv {xs : List α} {g : Grp} (h : OL K Ho v xs g) (m : ∀ r ∈ g, r ∈ R) : LV K R Ho v xs := by
  obtain ⟨p, vs, rfl, d, rfl⟩ := h
  exact ⟨p, vs, rfl, d, .inr (m _ (List.mem_singleton.mpr rfl))⟩
/-- a list of its own stands for good from now on -/
theorem OL.fr {xs : List α} {g : Grp} (h : OL K Ho v xs g) (z : Zs (g ++ R) H Ho) : ∃ Ho', Same Ho Ho' ∧ Zs R H Ho' ∧ Z.D K Ho' v xs := by
  obtain ⟨p, vs, rfl, d, rfl⟩ := h
  exact frz z d
theorem g_tyL {P : Prop} {xs : List α} (d : LV K R Ho v xs) (z : Zs R H Ho) (k : P) : tyV K "list" v H ∧ P := by
  obtain ⟨p, vs, rfl, _, s⟩ := LV.rd d z
  exact ⟨.inl ⟨rfl, _, s⟩, k⟩
theorem g_app {xs : List α} {x : α} {g : Grp} {f : List α → W γ} (z : Zs (g ++ R) H Ho) (o : OL K Ho v xs g) (dx : Z.D K Ho w x) (hw : (W.bind (apd xs x) f).run Φ) (k : ∀ xs' g' H', Zs (g' ++ R) H' Ho → OL K Ho v xs' g' → (f xs').run Φ → Q .non H') : rAppend v [w] H Q := by
  obtain ⟨p, vs, rfl, d, rfl⟩ := o
  exact ⟨p, vs, w, rfl, rfl, z.head, by rw [DL.len d]; exact hw.1, k _ _ _ z.put ⟨p, _, rfl, d.push dx, rfl⟩ hw.2⟩
theorem g_ext {xs ys : List α} {g g2 : Grp} {f : List α → W γ} (z : Zs (g2 ++ (g ++ R)) H Ho) (o : OL K Ho v xs g) (o2 : OL K Ho w ys g2) (hw : (W.bind (exd xs ys) f).run Φ) (k : ∀ xs' g' H', Zs (g' ++ R) H' Ho → OL K Ho v xs' g' → (f xs').run Φ → Q .non H') : rExtend v [w] H Q := by
  obtain ⟨p, vs, rfl, d, rfl⟩ := o
  obtain ⟨q, us, rfl, d2, rfl⟩ := o2
  have z1 : Zs ((p, .lst vs) :: (q, .lst us) :: R) H Ho := Zs.sw1 z
  exact ⟨p, q, vs, us, rfl, rfl, z1.head, z.head, by rw [DL.len d, DL.len d2]; exact hw.1, k _ _ _ (Zs.tail (Zs.sw1 z1.put)) ⟨p, _, rfl, d.append d2, rfl⟩ hw.2⟩
/-- xs.insert(i, x) -/
def insL {α : Type} (xs : List α) (i : Int) (x : α) : W (List α) := W.guard (xs.length < sizeLine ∧ 0 ≤ i ∧ i < 2 ^ 63) (W.ret (xs.take i.toNat ++ [x] ++ xs.drop i.toNat))
theorem dpAll_takeG {vs : List V} {ds : List PyData} (h : DqAll K H vs ds) (n : Nat) : DqAll K H (vs.take n) (ds.take n) := dpAll_take h n
theorem g_ins {xs : List α} {x : α} {i : Int} {g : Grp} {f : List α → W γ} (z : Zs (g ++ R) H Ho) (o : OL K Ho v xs g) (dx : Z.D K Ho w x) (hw : (W.bind (insL xs i x) f).run Φ) (k : ∀ xs' g' H', Zs (g' ++ R) H' Ho → OL K Ho v xs' g' → (f xs').run Φ → Q .non H') :
    (fun x vs H Q => ∃ (l : Addr) (xs : List V) (i : Int) (y : V), x = .ref l ∧ vs = [.int i, y] ∧ H l = some (.lst xs) ∧ xs.length < sizeLine ∧ 0 ≤ i ∧ i < 2 ^ 63 ∧ Q .non (upd H l (.lst (xs.take i.toNat ++ [y] ++ xs.drop i.toNat))) : V → List V → Hp → VK → Prop) v [.int i, w] H Q := by
  obtain ⟨p, vs, rfl, d, rfl⟩ := o
  obtain ⟨⟨h1, h2, h3⟩, hw⟩ := hw
  refine ⟨p, vs, i, w, rfl, rfl, z.head, by rw [DL.len d]; exact h1, h2, h3, k _ _ _ z.put ⟨p, _, rfl, ?_, rfl⟩ hw⟩
  show DqAll _ _ _ ((xs.take i.toNat ++ [x] ++ xs.drop i.toNat).map Py.toPy)
  rw [List.map_append, List.map_append, List.map_take, List.map_drop]
  exact dpAll_append (dpAll_append (dpAll_take d _) (.cons dx .nil)) (dpAll_drop d _)
theorem g_clear {xs : List α} {g : Grp} (z : Zs (g ++ R) H Ho) (o : OL K Ho v xs g) (k : ∀ g' H', Zs (g' ++ R) H' Ho → OL K Ho v ([] : List α) g' → Q .non H') : rClear v [] H Q := by
  obtain ⟨p, vs, rfl, d, rfl⟩ := o
  exact ⟨p, vs, rfl, rfl, z.head, k _ _ z.put ⟨p, _, rfl, .nil, rfl⟩⟩
theorem dpAll_rev {vs : List V} {ds : List PyData} (h : DqAll K H vs ds) : DqAll K H vs.reverse ds.reverse := by
  induction vs generalizing ds with
  | nil => cases h; exact .nil
  | cons v vs ih => cases h with | cons h1 h2 => rw [List.reverse_cons, List.reverse_cons]; exact dpAll_append (ih h2) (.cons h1 .nil)
theorem g_rev {xs : List α} {g : Grp} (z : Zs (g ++ R) H Ho) (o : OL K Ho v xs g) (k : ∀ g' H', Zs (g' ++ R) H' Ho → OL K Ho v xs.reverse g' → Q .non H') : rReverse v [] H Q := by
  obtain ⟨p, vs, rfl, d, rfl⟩ := o
  refine ⟨p, vs, rfl, rfl, z.head, k _ _ z.put ⟨p, _, rfl, ?_, rfl⟩⟩
  show DqAll _ _ _ (xs.reverse.map Py.toPy)
  rw [List.map_reverse]
  exact dpAll_rev d
theorem g_sti {xs : List α} {x : α} {i : Int} {g : Grp} {QH : Hp → Prop} {f : List α → W γ} (z : Zs (g ++ R) H Ho) (o : OL K Ho v xs g) (dx : Z.D K Ho w x) (hw : (W.bind (sti xs i x) f).run Φ) (k : ∀ xs' g' H', Zs (g' ++ R) H' Ho → OL K Ho v xs' g' → (f xs').run Φ → QH H') : rSetL v (.int i) w H QH := by
  obtain ⟨p, vs, rfl, d, rfl⟩ := o
  obtain ⟨j, ej, hw⟩ := hw
  exact ⟨p, vs, i, j, rfl, rfl, z.head, by rw [DL.len d]; exact ej, k _ _ _ z.put ⟨p, _, rfl, DL.set d dx j, rfl⟩ hw⟩
theorem g_pop {xs : List α} {g : Grp} {f : α → W γ} (z : Zs (g ++ R) H Ho) (o : OL K Ho v xs g) (hw : (W.bind (popL xs) f).run Φ) (k : ∀ t w g' H', Zs (g' ++ R) H' Ho → OL K Ho v xs.dropLast g' → Z.D K Ho w t → (f t).run Φ → Q w H') : rPop v [] H Q := by
  obtain ⟨p, vs, rfl, d, rfl⟩ := o
  exact y_pop (n := 0) z rfl d hw fun t w ws' H' z' d' dw hw => k t w _ H' z' ⟨p, _, rfl, d', rfl⟩ dw hw
theorem g_popI {xs : List α} {i : Int} {g : Grp} {f : α × List α → W γ} (z : Zs (g ++ R) H Ho) (o : OL K Ho v xs g) (hw : (W.bind (popI xs i) f).run Φ) (k : ∀ t xs' w g' H', Zs (g' ++ R) H' Ho → OL K Ho v xs' g' → Z.D K Ho w t → (f (t, xs')).run Φ → Q w H') : rPopAt v [.int i] H Q := by
  obtain ⟨p, vs, rfl, d, rfl⟩ := o
  exact y_popI (n := 0) z rfl d hw fun t xs' w ws' H' z' d' dw hw => k t xs' w _ H' z' ⟨p, _, rfl, d', rfl⟩ dw hw
/-! ### a value gets a name -/
def LetV (G : V → Prop) (v : V) : Prop := G v
theorem l_asg {u : TS} {te : TE} {D : Ends} {σ : L2.St} {i : Nat} (σ' : V → L2.St) (hσ : ∀ v, σ.set i (some v) = σ' v) (k : te σ H fun v H1 => LetV (fun v => u D (σ' v) H1) v) : tSeq (tAsg te (gName i)) u D σ H := by
  have e : (fun v H1 => LetV (fun v => u D (σ' v) H1) v) = fun v H1 => u D (σ.set i (some v)) H1 := by funext v H1; rw [hσ]; rfl
  rw [e] at k
  exact k
variable {G : V → Prop}
theorem l_n (k : G .non) : LetV G .non := k
theorem l_i {e : Int} {f : Int → W γ} (hw : (W.bind (W.ret e) f).run Φ) (k : ∀ x, (f x).run Φ → G (.int x)) : LetV G (.int e) := k e hw
theorem l_b {e : Bool} {f : Bool → W γ} (hw : (W.bind (W.ret e) f).run Φ) (k : ∀ x, (f x).run Φ → G (.bl x)) : LetV G (.bl e) := k e hw
theorem l_s {e : Str} {f : Str → W γ} (hw : (W.bind (W.ret e) f).run Φ) (k : ∀ x, (f x).run Φ → G (.str x)) : LetV G (.str e) := k e hw
theorem l_d {e : α} {f : α → W γ} (hw : (W.bind (W.ret e) f).run Φ) (d : Z.D K Ho v e) (k : ∀ x v, Z.D K Ho v x → (f x).run Φ → G v) : LetV G v := k e v d hw
theorem l_o {e : List α} {g : Grp} {f : List α → W γ} (hw : (W.bind (W.ret e) f).run Φ) (z : Zs (g ++ R) H Ho) (o : OL K Ho v e g) (k : ∀ x v g, Zs (g ++ R) H Ho → OL K Ho v x g → (f x).run Φ → G v) : LetV G v := k e v g z o hw
/-- what is told stands for good -/
theorem l_fr {P : Prop} {xs : List α} {g : Grp} (o : OL K Ho v xs g) (z : Zs (g ++ R) H Ho) (k : ∀ Ho', Same Ho Ho' → Zs R H Ho' → Z.D K Ho' v xs → P) : P := by
  obtain ⟨Ho', e, z', d⟩ := o.fr z
  exact k Ho' e z' d
/-! ### ways -/
theorem w_t {X Y : Prop} (k : X) : if true = true then X else Y := by simpa using k
/-- both ways tell a value and change nothing -/
theorem w_if {σ : L2.St} {ta tb : TE} {c : Bool} {a b : β} (mk : β → V) (h1 : c = true → Q (mk a) H → ta σ H Q) (h2 : c = false → Q (mk b) H → tb σ H Q) (k : Q (mk (if c = true then a else b)) H) : if c = true then ta σ H Q else tb σ H Q := by
  cases c with
  | true => exact iteT (h1 rfl k)
  | false => exact iteF (h2 rfl k)
theorem w_andP {σ : L2.St} {tu : TT} {QB : Bool → Hp → Prop} {a : Bool} (b : Bool) (h : a = true → QB b H → tu σ H QB) (k : QB (a && b) H) : if a = true then tu σ H QB else QB false H := by
  cases a with
  | true => exact iteT (h rfl k)
  | false => exact iteF k
theorem w_orP {σ : L2.St} {tu : TT} {QB : Bool → Hp → Prop} {a : Bool} (b : Bool) (h : a = false → QB b H → tu σ H QB) (k : QB (a || b) H) : if a = true then QB true H else tu σ H QB := by
  cases a with
  | true => exact iteT k
  | false => exact iteF (h rfl k)
theorem w_andPV {σ : L2.St} {tb : TE} {a : Bool} (b : Bool) (h : a = true → Q (.bl b) H → tb σ H Q) (k : Q (.bl (a && b)) H) : if a = true then tb σ H Q else Q (.bl false) H := by
  cases a with
  | true => exact iteT (h rfl k)
  | false => exact iteF k
theorem w_orPV {σ : L2.St} {tb : TE} {a : Bool} (b : Bool) (h : a = false → Q (.bl b) H → tb σ H Q) (k : Q (.bl (a || b)) H) : if a = true then Q (.bl true) H else tb σ H Q := by
  cases a with
  | true => exact iteT k
  | false => exact iteF (h rfl k)
theorem w_chain {σ : L2.St} {tc : TE} {r' : R2} {y : V} {a : Bool} (b : Bool) (h : a = true → Q (.bl b) H → tc σ H fun w' H4 => r' y w' H4 Q) (k : Q (.bl (a && b)) H) : if a = true then tc σ H (fun w' H4 => r' y w' H4 Q) else Q (.bl false) H := by
  cases a with
  | true => exact iteT (h rfl k)
  | false => exact iteF k
/-! ways that meet -/
section
variable {S ρ : Type} {b : Bool} {c1 c2 : W S} {f : S → W γ} {σ : L2.St} {D : Ends} {u t1 t2 : TS} {tu : TT} {ta tb : TE} {QB : Bool → Hp → Prop}
theorem w_ifJ (hw : (W.bind (W.ite b c1 c2) f).run Φ) (J : S → L2.St → Hp → Prop)
    (h1 : b = true → c1.run (fun s => ∀ σ' H', J s σ' H' → u D σ' H') → t1 { D with nx := u D } σ H)
    (h2 : b = false → c2.run (fun s => ∀ σ' H', J s σ' H' → u D σ' H') → t2 { D with nx := u D } σ H)
    (k : ∀ s σ' H', J s σ' H' → (f s).run Φ → u D σ' H') : if b = true then t1 { D with nx := u D } σ H else t2 { D with nx := u D } σ H := by
  cases b with
  | true => exact iteT (h1 rfl (W.mono _ _ _ (fun s q σ' H' j => k s σ' H' j q) (hw.1 rfl)))
  | false => exact iteF (h2 rfl (W.mono _ _ _ (fun s q σ' H' j => k s σ' H' j q) (hw.2 rfl)))
theorem w_ifC {Φ : ρ → Prop} {c1 c2 : W (Ctl ρ S)} {f : S → W ρ} (hw : (W.bind (W.ite b c1 c2) fun c => W.after c f).run Φ) (J : S → L2.St → Hp → Prop)
    (h1 : b = true → c1.run (CtlP (fun s => ∀ σ' H', J s σ' H' → u D σ' H') (fun s => ∀ σ' H', J s σ' H' → u D σ' H') Φ) → t1 { D with nx := u D } σ H)
    (h2 : b = false → c2.run (CtlP (fun s => ∀ σ' H', J s σ' H' → u D σ' H') (fun s => ∀ σ' H', J s σ' H' → u D σ' H') Φ) → t2 { D with nx := u D } σ H)
    (k : ∀ s σ' H', J s σ' H' → (f s).run Φ → u D σ' H') : if b = true then t1 { D with nx := u D } σ H else t2 { D with nx := u D } σ H := by
  have m : ∀ c : W (Ctl ρ S), c.run (fun c => (W.after c f).run Φ) → c.run (CtlP (fun s => ∀ σ' H', J s σ' H' → u D σ' H') (fun s => ∀ σ' H', J s σ' H' → u D σ' H') Φ) := fun c h => c.mono _ _ (fun r q => by
    cases r with
    | nx s => exact fun σ' H' j => k s σ' H' j q
    | bk s => exact fun σ' H' j => k s σ' H' j q
    | rt r => exact q) h
  cases b with
  | true => exact iteT (h1 rfl (m _ (hw.1 rfl)))
  | false => exact iteF (h2 rfl (m _ (hw.2 rfl)))
theorem w_andJ (hw : (W.bind (W.ite b c1 c2) f).run Φ) (J : S → Bool → Hp → Prop)
    (h1 : b = true → c1.run (fun s => ∀ v H', J s v H' → QB v H') → tu σ H QB)
    (h2 : b = false → c2.run (fun s => ∀ v H', J s v H' → QB v H') → QB false H)
    (k : ∀ s v H', J s v H' → (f s).run Φ → QB v H') : if b = true then tu σ H QB else QB false H := by
  cases b with
  | true => exact iteT (h1 rfl (W.mono _ _ _ (fun s q v H' j => k s v H' j q) (hw.1 rfl)))
  | false => exact iteF (h2 rfl (W.mono _ _ _ (fun s q v H' j => k s v H' j q) (hw.2 rfl)))
theorem w_orJ (hw : (W.bind (W.ite b c1 c2) f).run Φ) (J : S → Bool → Hp → Prop)
    (h1 : b = true → c1.run (fun s => ∀ v H', J s v H' → QB v H') → QB true H)
    (h2 : b = false → c2.run (fun s => ∀ v H', J s v H' → QB v H') → tu σ H QB)
    (k : ∀ s v H', J s v H' → (f s).run Φ → QB v H') : if b = true then QB true H else tu σ H QB := by
  cases b with
  | true => exact iteT (h1 rfl (W.mono _ _ _ (fun s q v H' j => k s v H' j q) (hw.1 rfl)))
  | false => exact iteF (h2 rfl (W.mono _ _ _ (fun s q v H' j => k s v H' j q) (hw.2 rfl)))
theorem w_andVJ (hw : (W.bind (W.ite b c1 c2) f).run Φ) (J : S → V → Hp → Prop)
    (h1 : b = true → c1.run (fun s => ∀ v H', J s v H' → Q v H') → tb σ H Q)
    (h2 : b = false → c2.run (fun s => ∀ v H', J s v H' → Q v H') → Q (.bl false) H)
    (k : ∀ s v H', J s v H' → (f s).run Φ → Q v H') : if b = true then tb σ H Q else Q (.bl false) H := by
  cases b with
  | true => exact iteT (h1 rfl (W.mono _ _ _ (fun s q v H' j => k s v H' j q) (hw.1 rfl)))
  | false => exact iteF (h2 rfl (W.mono _ _ _ (fun s q v H' j => k s v H' j q) (hw.2 rfl)))
theorem w_orVJ (hw : (W.bind (W.ite b c1 c2) f).run Φ) (J : S → V → Hp → Prop)
    (h1 : b = true → c1.run (fun s => ∀ v H', J s v H' → Q v H') → Q (.bl true) H)
    (h2 : b = false → c2.run (fun s => ∀ v H', J s v H' → Q v H') → tb σ H Q)
    (k : ∀ s v H', J s v H' → (f s).run Φ → Q v H') : if b = true then Q (.bl true) H else tb σ H Q := by
  cases b with
  | true => exact iteT (h1 rfl (W.mono _ _ _ (fun s q v H' j => k s v H' j q) (hw.1 rfl)))
  | false => exact iteF (h2 rfl (W.mono _ _ _ (fun s q v H' j => k s v H' j q) (hw.2 rfl)))
theorem w_ifEJ (hw : (W.bind (W.ite b c1 c2) f).run Φ) (J : S → V → Hp → Prop)
    (h1 : b = true → c1.run (fun s => ∀ v H', J s v H' → Q v H') → ta σ H Q)
    (h2 : b = false → c2.run (fun s => ∀ v H', J s v H' → Q v H') → tb σ H Q)
    (k : ∀ s v H', J s v H' → (f s).run Φ → Q v H') : if b = true then ta σ H Q else tb σ H Q := by
  cases b with
  | true => exact iteT (h1 rfl (W.mono _ _ _ (fun s q v H' j => k s v H' j q) (hw.1 rfl)))
  | false => exact iteF (h2 rfl (W.mono _ _ _ (fun s q v H' j => k s v H' j q) (hw.2 rfl)))
end
/-! ### targets -/
section
variable {δ ε : Type} [Py δ] [Py ε] {i j l m : Nat} {x : V} {σ : L2.St} {QS : L2.St → Hp → Prop} {rs : Grp}
theorem c_gt2 {a : α × β} (σ' : V → V → L2.St) (hσ : ∀ v u, (σ.set i (some v)).set j (some u) = σ' v u) (d : Z.D K Ho x a) (z : Zs rs H Ho) (k : ∀ v u, Z.D K Ho v a.1 → Z.D K Ho u a.2 → QS (σ' v u) H) : gTup K 2 (gCons (gName i) (gCons (gName j) gNil)) x σ H QS :=
  y_gt2 d z fun v u d1 d2 => by rw [hσ]; exact k v u d1 d2
theorem c_gt3 {a : P3 α β δ} (σ' : V → V → V → L2.St) (hσ : ∀ v u w, ((σ.set i (some v)).set j (some u)).set l (some w) = σ' v u w) (d : Z.D K Ho x a) (z : Zs rs H Ho) (k : ∀ v u w, Z.D K Ho v a.a → Z.D K Ho u a.b → Z.D K Ho w a.c → QS (σ' v u w) H) : gTup K 3 (gCons (gName i) (gCons (gName j) (gCons (gName l) gNil))) x σ H QS :=
  y_gt3 d z fun v u w d1 d2 d3 => by rw [hσ]; exact k v u w d1 d2 d3
theorem c_gt4 {a : P4 α β δ ε} (σ' : V → V → V → V → L2.St) (hσ : ∀ v u w t, (((σ.set i (some v)).set j (some u)).set l (some w)).set m (some t) = σ' v u w t) (d : Z.D K Ho x a) (z : Zs rs H Ho) (k : ∀ v u w t, Z.D K Ho v a.a → Z.D K Ho u a.b → Z.D K Ho w a.c → Z.D K Ho t a.d → QS (σ' v u w t) H) : gTup K 4 (gCons (gName i) (gCons (gName j) (gCons (gName l) (gCons (gName m) gNil)))) x σ H QS :=
  y_gt4 d z fun v u w t d1 d2 d3 d4 => by rw [hσ]; exact k v u w t d1 d2 d3 d4
theorem l_u {e : α} {f : α → W γ} {P : V → Prop} (hw : (W.bind (W.ret e) f).run Φ) (d : Z.D K Ho v e) (k : ∀ x v, Z.D K Ho v x → (f x).run Φ → P v) : P v := k e v d hw
theorem l_aug {te : TE} {tip : TIp} {u : TS} {D : Ends} (σ' : V → L2.St) (h : σ[i]? = some (some v)) (hσ : ∀ v, σ.set i (some v) = σ' v) (k : te σ H fun y H1 => tip v y H1 fun z H2 => LetV (fun v => u D (σ' v) H2) z) : tSeq (tAug i te tip) u D σ H := by
  refine y_aug σ' h hσ ?_
  exact k
end
/-! ### lists of unlike things -/
section
class Hc (α : Type) where
  cs : α → List PyData
structure H2 (α β : Type) where
  a : α
  b : β
  deriving DecidableEq
structure H3 (α β γ : Type) where
  a : α
  b : β
  c : γ
  deriving DecidableEq
structure H4 (α β γ δ : Type) where
  a : α
  b : β
  c : γ
  d : δ
  deriving DecidableEq
structure H5 (α β γ δ ε : Type) where
  a : α
  b : β
  c : γ
  d : δ
  e : ε
  deriving DecidableEq
instance {α β : Type} [Py α] [Py β] : Hc (H2 α β) := ⟨fun p => [toPy p.a, toPy p.b]⟩
instance {α β γ : Type} [Py α] [Py β] [Py γ] : Hc (H3 α β γ) := ⟨fun p => [toPy p.a, toPy p.b, toPy p.c]⟩
instance {α β γ δ : Type} [Py α] [Py β] [Py γ] [Py δ] : Hc (H4 α β γ δ) := ⟨fun p => [toPy p.a, toPy p.b, toPy p.c, toPy p.d]⟩
instance {α β γ δ ε : Type} [Py α] [Py β] [Py γ] [Py δ] [Py ε] : Hc (H5 α β γ δ ε) := ⟨fun p => [toPy p.a, toPy p.b, toPy p.c, toPy p.d, toPy p.e]⟩
instance {α : Type} [Hc α] : Py α := ⟨fun p => .list (Hc.cs p)⟩
variable {η : Type} [Hc η]
def OH (K : PySem.W.Frag) (Ho : Hp) (v : V) (x : η) (g : Grp) : Prop := ∃ p vs, v = .ref p ∧ DqAll K Ho vs (Hc.cs x) ∧ g = [(p, .lst vs)]
theorem OH.mo {v : V} {x : η} {g : Grp} (h : OH K Ho v x g) (e : Same Ho Ho') : OH K Ho' v x g := by
  obtain ⟨p, vs, rfl, d, rfl⟩ := h
  exact ⟨p, vs, rfl, dpAll_mono e _ _ d, rfl⟩
theorem atI_dq {vs : List V} {ds : List PyData} {i : Int} {d : PyData} (h : DqAll K H vs ds) (e : atI ds i = some d) : ∃ v, atI vs i = some v ∧ Dq K H v d := by
  unfold atI at e ⊢
  rw [dpAll_len h]
  cases q : ixN ds.length i with
  | none => rw [q] at e; cases e
  | some j => rw [q] at e; exact dpAll_get h e
theorem h_ix {x : η} {y : β} {i : Int} {g : Grp} (o : OH K Ho v x g) (z : Zs (g ++ R) H Ho) (hj : atI (Hc.cs x) i = some (toPy y)) (k : ∀ w, Z.D K Ho w y → Q w H) : rIxL K v (.int i) H Q := by
  obtain ⟨p, vs, rfl, d, rfl⟩ := o
  obtain ⟨w, ew, dw⟩ := atI_dq d hj
  exact ⟨p, vs, i, w, rfl, rfl, SqL.of z.head, ew, k w dw⟩
theorem h_st {x y : η} {e : β} {i : Int} {j : Nat} {g : Grp} {QH : Hp → Prop} (z : Zs (g ++ R) H Ho) (o : OH K Ho v x g) (dx : Z.D K Ho w e) (hj : ixN (Hc.cs x).length i = some j) (hy : Hc.cs y = (Hc.cs x).set j (toPy e)) (k : ∀ g' H', Zs (g' ++ R) H' Ho → OH K Ho v y g' → QH H') : rSetL v (.int i) w H QH := by
  obtain ⟨p, vs, rfl, d, rfl⟩ := o
  refine ⟨p, vs, i, j, rfl, rfl, z.head, by rw [dpAll_len d]; exact hj, k _ _ z.put ⟨p, _, rfl, ?_, rfl⟩⟩
  rw [hy]
  exact dpAll_set d dx j
theorem OH.fr {x : η} {g : Grp} (h : OH K Ho v x g) (z : Zs (g ++ R) H Ho) : ∃ Ho', Same Ho Ho' ∧ Zs R H Ho' ∧ Z.D K Ho' v x := by
  obtain ⟨p, vs, rfl, d, rfl⟩ := h
  have z : Zs ((p, .lst vs) :: R) H Ho := z
  have e : Same Ho (upd Ho p (.lst vs)) := Same.new z.headN
  exact ⟨_, e, z.freeze, .lst (SqL.of upd_same) (dpAll_mono e _ _ d)⟩
theorem h_fr {P : Prop} {x : η} {g : Grp} (o : OH K Ho v x g) (z : Zs (g ++ R) H Ho) (k : ∀ Ho', Same Ho Ho' → Zs R H Ho' → Z.D K Ho' v x → P) : P := by
  obtain ⟨Ho', e, z', d⟩ := o.fr z
  exact k Ho' e z' d
theorem h_nm {P : Prop} {e : η} {g : Grp} {f : η → W γ} (hw : (W.bind (W.ret e) f).run Φ) (o : OH K Ho v e g) (k : ∀ x, OH K Ho v x g → (f x).run Φ → P) : P := k e o hw
theorem h_nmL {P : Prop} {e : List α} {g : Grp} {f : List α → W γ} (hw : (W.bind (W.ret e) f).run Φ) (o : OL K Ho v e g) (k : ∀ x, OL K Ho v x g → (f x).run Φ → P) : P := k e o hw
theorem h_o {G : V → Prop} {e : η} {g : Grp} {f : η → W γ} (hw : (W.bind (W.ret e) f).run Φ) (z : Zs (g ++ R) H Ho) (o : OH K Ho v e g) (k : ∀ x v g, Zs (g ++ R) H Ho → OH K Ho v x g → (f x).run Φ → G v) : LetV G v := k e v g z o hw
/-- the display [a, b, ..] of unlike things -/
theorem h_lst {vs : List V} {x : η} (z : Zs R H Ho) (hx : DqAll K Ho vs (Hc.cs x)) (hl : vs.length ≤ sizeLine) (k : ∀ H' p g, Zs (g ++ R) H' Ho → OH K Ho (.ref p) x g → Q (.ref p) H') : vs.length ≤ sizeLine ∧ ∀ p, H p = none → Q (.ref p) (upd H p (.lst vs)) :=
  ⟨hl, fun p hp => k _ p _ (z.root hp) ⟨p, _, rfl, hx, rfl⟩⟩
end
end
section
variable {K : PySem.W.Frag} {H Ho H' Ho' : Hp} {α β γ : Type} [Py α] [Py β] {Φ : γ → Prop} {R rs : Grp} {v w : V} {Q : VK} {σ : L2.St}
theorem y_get {P : Prop} {x : Option β} {f : β → W γ} (d : Z.D K Ho v x) (hw : (W.bind (W.opt x) f).run Φ) (k : ∀ t, Z.D K Ho v t → (f t).run Φ → P) : P := by
  obtain ⟨t, rfl, hw⟩ := hw
  exact k t d hw
theorem y_lstRg {te : L2.St → Hp → (Int → Int → Hp → Prop) → Prop} (k : te σ H fun a b H1 => RgOk a b ∧ ∀ q, H1 q = none → Q (.ref q) (upd H1 q (.lst (rgV a b)))) : tLstRg te σ H Q := k
theorem y_rg1 {ta : TE} {QR : Int → Int → Hp → Prop} (k : ta σ H fun x H1 => ∃ n, x = .int n ∧ QR 0 n H1) : tRg1 ta σ H QR := k
theorem y_rg2 {ta tb : TE} {QR : Int → Int → Hp → Prop} (k : ta σ H fun x H1 => tb σ H1 fun y H2 => ∃ i j, x = .int i ∧ y = .int j ∧ QR i j H2) : tRg2 ta tb σ H QR := k
theorem y_rg1v {QR : Int → Int → Hp → Prop} {n : Int} (k : QR 0 n H) : ∃ m, V.int n = .int m ∧ QR 0 m H := ⟨n, rfl, k⟩
theorem y_rg2v {QR : Int → Int → Hp → Prop} {i j : Int} (k : QR i j H) : ∃ i' j', V.int i = .int i' ∧ V.int j = .int j' ∧ QR i' j' H := ⟨i, j, rfl, rfl, k⟩
theorem rgV_rng {a b : Int} : rgV a b = (rng a b).map V.int := by
  unfold rgV rng
  rw [List.map_map]
  rfl
theorem y_listR {a b : Int} (z : Zs rs H Ho) (hg : RgOk a b) (k : ∀ H' p ws, Zs ((p, .lst ws) :: rs) H' Ho → DL K Ho ws (rng a b) → Q (.ref p) H') : RgOk a b ∧ ∀ q, H q = none → Q (.ref q) (upd H q (.lst (rgV a b))) :=
  ⟨hg, fun q hq => by rw [rgV_rng]; exact k _ q _ (z.root hq) ints_dl⟩
theorem dpAll_lenT {x : α} {ds : List PyData} (hx : toPy x = .tuple ds) (d : Z.D K Ho v x) (z : Zs rs H Ho) (k : Q (.int (ds.length : Int)) H) : rLenZ K [v] H Q := by
  have d : Dq K Ho v (toPy x) := d
  rw [hx] at d
  cases d with
  | tup hs ha =>
    refine ⟨_, _, rfl, .inr (SqT.of (z.le _ _ hs)), ?_⟩
    rw [dpAll_len ha]; exact k
end
/-! ### what is asked of a value, not taken apart too early -/
section
variable {K : PySem.W.Frag} {H Ho H' Ho' : Hp} {α β γ : Type} [Py α] [Py β] {Φ : γ → Prop} {rs r0 : Grp} {v w u : V} {vs : List V} {Q : VK} {σ : L2.St} {ts : TA} {te : TE} {R : It → Hp → Prop}
def LstK (Q : VK) (vs : List V) (H : Hp) : Prop := vs.length ≤ sizeLine ∧ ∀ p, H p = none → Q (.ref p) (upd H p (.lst vs))
def TupK (Q : VK) (vs : List V) (H : Hp) : Prop := vs.length ≤ sizeLine ∧ ∀ p, H p = none → Q (.ref p) (upd H p (.tup vs))
def RgK (Q : VK) (a b : Int) (H : Hp) : Prop := RgOk a b ∧ ∀ q, H q = none → Q (.ref q) (upd H q (.lst (rgV a b)))
theorem k_lst (k : ts σ H fun xs H1 => LstK Q xs H1) : tLst ts σ H Q := k
theorem k_tup (k : ts σ H fun xs H1 => TupK Q xs H1) : tTup ts σ H Q := k
theorem k_lstk {xs : List α} (z : Zs rs H Ho) (d : DL K Ho vs xs) (hl : vs.length ≤ sizeLine) (k : ∀ H' p ws, Zs ((p, .lst ws) :: rs) H' Ho → DL K Ho ws xs → Q (.ref p) H') : LstK Q vs H := y_lstk z d hl k
theorem k_tupk {x : α} (z : Zs rs H Ho) (hl : vs.length ≤ sizeLine) (ds : List PyData) (hx : toPy x = .tuple ds) (d : DqAll K Ho vs ds) (k : ∀ p H' Ho', Same Ho Ho' → Zs rs H' Ho' → Z.D K Ho' (.ref p) x → Q (.ref p) H') : TupK Q vs H := y_tupk z hl ds hx d k
theorem k_hlst {η : Type} [Hc η] {x : η} (z : Zs rs H Ho) (hx : DqAll K Ho vs (Hc.cs x)) (hl : vs.length ≤ sizeLine) (k : ∀ H' p g, Zs (g ++ rs) H' Ho → OH K Ho (.ref p) x g → Q (.ref p) H') : LstK Q vs H := h_lst z hx hl k
theorem k_lstRg {tr : L2.St → Hp → (Int → Int → Hp → Prop) → Prop} (k : tr σ H fun a b H1 => RgK Q a b H1) : tLstRg tr σ H Q := k
theorem k_listR {a b : Int} (z : Zs rs H Ho) (hg : RgOk a b) (k : ∀ H' p ws, Zs ((p, .lst ws) :: rs) H' Ho → DL K Ho ws (rng a b) → Q (.ref p) H') : RgK Q a b H := y_listR z hg k
def SrcL (K : PySem.W.Frag) (R : It → Hp → Prop) (x : V) (H : Hp) : Prop := ∃ a, x = .ref a ∧ (∃ xs, SqL K H a xs) ∧ R (Itl K a) H
def SrcT (K : PySem.W.Frag) (R : It → Hp → Prop) (x : V) (H : Hp) : Prop := ∃ a, x = .ref a ∧ (∃ xs, SqT K H a xs) ∧ R (Itt K a) H
def Src1 (R : It → Hp → Prop) (vs : List V) (H : Hp) : Prop := ∃ j : Int, vs = [.int j] ∧ -(2 ^ 62) ≤ j ∧ j < 2 ^ 62 ∧ R (Itr 0 j.toNat) H
def Src2 (R : It → Hp → Prop) (vs : List V) (H : Hp) : Prop := ∃ i j : Int, vs = [.int i, .int j] ∧ (-(2 ^ 62) ≤ i ∧ i < 2 ^ 62 ∧ -(2 ^ 62) ≤ j ∧ j < 2 ^ 62) ∧ R (Itr i (j - i).toNat) H
def Src3 (R : It → Hp → Prop) (vs : List V) (H : Hp) : Prop := ∃ (a b c : Int) (n : Nat), vs = [.int a, .int b, .int c] ∧ RgC a b c n ∧ R (Itc a c n) H
def SrcZ (K : PySem.W.Frag) (R : It → Hp → Prop) (vs : List V) (H : Hp) : Prop := ∃ a b xs ys, vs = [.ref a, .ref b] ∧ SqL K H a xs ∧ SqL K H b ys ∧ R (Itz K a b) H
def SrcE (K : PySem.W.Frag) (R : It → Hp → Prop) (vs : List V) (H : Hp) : Prop := ∃ a xs, vs = [.ref a] ∧ SqL K H a xs ∧ R (Ite K a) H
def SrcV (K : PySem.W.Frag) (R : It → Hp → Prop) (vs : List V) (H : Hp) : Prop := ∃ a xs, vs = [.ref a] ∧ SqL K H a xs ∧ R (Itv K a xs.length) H
theorem k_iList (k : te σ H fun x H1 => SrcL K R x H1) : iList K te σ H R := k
theorem k_iTup (k : te σ H fun x H1 => SrcT K R x H1) : iTup K te σ H R := k
theorem k_iR1 (k : ts σ H fun vs H1 => Src1 R vs H1) : iRng1 ts σ H R := k
theorem k_iR2 (k : ts σ H fun vs H1 => Src2 R vs H1) : iRng2 ts σ H R := k
theorem k_iR3 (k : ts σ H fun vs H1 => Src3 R vs H1) : iRng3 ts σ H R := k
theorem k_iZip (k : ts σ H fun vs H1 => SrcZ K R vs H1) : iZip K ts σ H R := k
theorem k_iEnum (k : ts σ H fun vs H1 => SrcE K R vs H1) : iEnum K ts σ H R := k
theorem k_iRev (k : ts σ H fun vs H1 => SrcV K R vs H1) : iRev K ts σ H R := k
theorem k_srcL {xs : List α} (d : LV K r0 Ho v xs) (hs : ∀ r ∈ r0, r ∈ rs) (z : Zs rs H Ho) (k : ∀ J, Trn K r0 J xs Ho → R J H) : SrcL K R v H := y_srcL d hs z k
theorem k_srcT {x : β} {xs : List α} (d : Z.D K Ho v x) (hf : toPy x = .tuple (xs.map Py.toPy)) (z : Zs rs H Ho) (k : ∀ J, Trn K [] J xs Ho → R J H) : SrcT K R v H := y_srcT d hf z k
theorem k_srcR1 {n : Int} (hg : rngOk 0 n) (k : ∀ J, Trn K [] J (rng 0 n) Ho → R J H) : Src1 R [V.int n] H := y_srcR1 hg k
theorem k_srcR2 {a b : Int} (hg : rngOk a b) (k : ∀ J, Trn K [] J (rng a b) Ho → R J H) : Src2 R [V.int a, V.int b] H := y_srcR2 hg k
theorem k_srcR3 {a b : Int} (hg : rngOk b a) (k : ∀ J, Trn K [] J (rngD a b) Ho → R J H) : Src3 R [V.int a, V.int b, V.int (-1)] H := y_srcR3 hg k
theorem k_srcZ {xs : List α} {ys : List β} (d : LV K r0 Ho v xs) (d' : LV K r0 Ho u ys) (hs : ∀ r ∈ r0, r ∈ rs) (z : Zs rs H Ho) (k : ∀ J, Trn K r0 J (xs.zip ys) Ho → R J H) : SrcZ K R [v, u] H := y_srcZ d d' hs z k
theorem k_srcE {xs : List α} (d : LV K r0 Ho v xs) (hs : ∀ r ∈ r0, r ∈ rs) (z : Zs rs H Ho) (k : ∀ J, Trn K r0 J (enumZ xs) Ho → R J H) : SrcE K R [v] H := y_srcE d hs z k
theorem k_srcV {xs : List α} (d : LV K r0 Ho v xs) (hs : ∀ r ∈ r0, r ∈ rs) (z : Zs rs H Ho) (k : ∀ J, Trn K r0 J xs.reverse Ho → R J H) : SrcV K R [v] H := y_srcV d hs z k
theorem y_nxS {D : Ends} {u : TS} (k : u D σ H) : tNext { D with nx := u D } σ H := k
end
section
variable {K : PySem.W.Frag} {H Ho H' Ho' : Hp} {α β γ : Type} [Py α] [Py β] {Φ : γ → Prop} {rs R : Grp} {v w : V} {Q : VK} {σ : L2.St} {ta : TA} {D : Ends} {u : TS} {i j : Nat}
theorem not_isNone {x : Option β} : (!x.isNone) = x.isSome := by cases x <;> rfl
def rInsert : V → List V → Hp → VK → Prop := fun x vs H Q => ∃ (l : Addr) (xs : List V) (i : Int) (y : V), x = .ref l ∧ vs = [.int i, y] ∧ H l = some (.lst xs) ∧ xs.length < sizeLine ∧ 0 ≤ i ∧ i < 2 ^ 63 ∧ Q .non (upd H l (.lst (xs.take i.toNat ++ [y] ++ xs.drop i.toNat)))
theorem zmt_insert {X : Cx} : MtR X "list.insert" rInsert := mt_insert
theorem k_ins {xs : List α} {x : α} {i : Int} {g : Grp} {f : List α → W γ} (z : Zs (g ++ R) H Ho) (o : OL K Ho v xs g) (dx : Z.D K Ho w x) (hw : (W.bind (insL xs i x) f).run Φ) (k : ∀ xs' g' H', Zs (g' ++ R) H' Ho → OL K Ho v xs' g' → (f xs').run Φ → Q .non H') : rInsert v [.int i, w] H Q := g_ins z o dx hw k
def Par2 (G : V → V → Prop) (vs : List V) : Prop := ∃ v w, vs = [v, w] ∧ G v w
theorem l_par (σ' : V → V → L2.St) (hσ : ∀ v w, (σ.set i (some v)).set j (some w) = σ' v w) (k : ta σ H fun vs H1 => Par2 (fun v w => u D (σ' v w) H1) vs) : tSeq (tPar i j ta) u D σ H := by
  have e : (fun vs H1 => Par2 (fun v w => u D (σ' v w) H1) vs) = fun vs H1 => ∃ v w, vs = [v, w] ∧ u D ((σ.set i (some v)).set j (some w)) H1 := by
    funext vs H1
    unfold Par2
    simp only [hσ]
  rw [e] at k
  exact k
theorem l_par2 {G : V → V → Prop} (k : LetV (fun v => LetV (fun w => G v w) w) v) : Par2 G [v, w] := ⟨v, w, rfl, k⟩
end
section
variable {K : PySem.W.Frag} {H Ho : Hp} {rs : Grp} {vs : List V} {Q : VK} {σ : L2.St} {ts : TA}
theorem k_tcs {QV : VK} (z : Zs rs H Ho) (ht : TCs ts vs) (hl : vs.length ≤ sizeLine) (k : ∀ p H' Ho', Same Ho Ho' → Zs rs H' Ho' → H' p = some (.tup vs) → QV (.ref p) H') : tTup ts σ H QV :=
  ht.run ⟨hl, fun p hp => k p _ _ (Same.new (z.free hp)) (z.alloc hp) upd_same⟩
theorem k_isXT {cl : Nat → Addr} {n : Nat} {a p : Addr} {us : List Value} {b : Bool} (hp : H p = some (.tup vs)) (xc : ExcC K (cl n)) (k : Paired ClsV vs us) (e : PySem.W.kitAny K (.ref (cl n)) us = some b) (q : Q (.bl b) H) : rIsXT K a (.ref (cl n)) none [.ref a, .ref p] H Q :=
  ⟨_, p, vs, us, b, rfl, rfl, rfl, hp, k, xc, e, q⟩
end
end Z

/-! # Ym: what the computations promise, in plain Lean -/
namespace Z
open PySem L2
section
variable {α β γ S ρ : Type}
theorem run_bind {c : W α} {f : α → W β} {Φ : β → Prop} : (W.bind c f).run Φ = c.run fun a => (f a).run Φ := rfl
theorem run_bind2 {c : W (α × β)} {f : α → β → W γ} {Φ : γ → Prop} : (W.bind2 c f).run Φ = c.run fun r => (f r.1 r.2).run Φ := rfl
theorem run_rt {a : α} {Φ : α → Prop} : (W.ret a).run Φ = Φ a := rfl
theorem run_guard {p : Prop} {c : W α} {Φ : α → Prop} : (W.guard p c).run Φ = (p ∧ c.run Φ) := rfl
theorem run_opt {o : Option α} {Φ : α → Prop} : (W.opt o).run Φ = ∃ a, o = some a ∧ Φ a := rfl
theorem run_ite {b : Bool} {x y : W α} {Φ : α → Prop} : (W.ite b x y).run Φ = ((b = true → x.run Φ) ∧ (b = false → y.run Φ)) := rfl
theorem run_if {b : Bool} {x y : W α} {Φ : α → Prop} : (W.ite b x y).run Φ = (if b = true then x.run Φ else y.run Φ) := by
  cases b <;> simp [W.ite]
theorem run_mono {c : W α} {Φ Φ' : α → Prop} (h : c.run Φ) (k : ∀ a, Φ a → Φ' a) : c.run Φ' := c.mono _ _ k h
theorem atI_some {xs : List α} {i : Int} (h0 : 0 ≤ i) (h : i < xs.length) : ∃ a, a ∈ xs ∧ atI xs i = some a := by
  obtain ⟨j, rfl⟩ : ∃ j : Nat, i = j := ⟨i.toNat, by omega⟩
  have hj : j < xs.length := by omega
  exact ⟨xs[j], List.getElem_mem hj, atI_nat (List.getElem?_eq_getElem hj)⟩
theorem atI_get' {xs : List α} {i : Int} {a : α} (h0 : 0 ≤ i) (h : xs[i.toNat]? = some a) : atI xs i = some a := by
  obtain ⟨j, rfl⟩ : ∃ j : Nat, i = j := ⟨i.toNat, by omega⟩
  exact atI_nat (by simpa using h)
theorem ixN_nat' {n : Nat} {i : Int} (h0 : 0 ≤ i) (h : i < n) : ixN n i = some i.toNat := by
  unfold ixN
  rw [if_pos h0, if_pos h]
theorem forL_wp (Inv : Nat → S → Prop) {xs : List α} {s : S} {f : α → S → W S} {Φ : S → Prop} (h0 : Inv 0 s) (step : ∀ i x s, xs[i]? = some x → Inv i s → (f x s).run (Inv (i + 1))) (k : ∀ s, Inv xs.length s → Φ s) : (W.forL xs s f).run Φ := by
  induction xs generalizing s Inv with
  | nil => exact k s h0
  | cons x xs ih =>
    show (f x s).run (fun s' => (W.forL xs s' f).run Φ)
    refine run_mono (step 0 x s rfl h0) fun s' h' => ?_
    exact ih (fun i => Inv (i + 1)) h' (fun i y s hy hi => step (i + 1) y s (by simpa using hy) hi) fun s hs => k s hs
theorem forC_wp (Inv : Nat → S → Prop) {xs : List α} {s : S} {f : α → S → W (Ctl ρ S)} {Φ : Ctl ρ S → Prop} (h0 : Inv 0 s)
    (step : ∀ i x s, xs[i]? = some x → Inv i s → (f x s).run (CtlP (Inv (i + 1)) (fun s => Φ (.nx s)) (fun r => Φ (.rt r)))) (k : ∀ s, Inv xs.length s → Φ (.nx s)) : (W.forC xs s f).run Φ := by
  induction xs generalizing s Inv with
  | nil => exact k s h0
  | cons x xs ih =>
    show (W.bind (f x s) _).run Φ
    rw [run_bind]
    refine run_mono (step 0 x s rfl h0) fun c hc => ?_
    cases c with
    | nx s' => exact ih (fun i => Inv (i + 1)) hc (fun i y s hy hi => step (i + 1) y s (by simpa using hy) hi) fun s hs => k s hs
    | bk s' => exact hc
    | rt r => exact hc
theorem comp_wp {xs : List α} {acc : List β} {ct : α → W Bool} {cf : α → W β} (t : α → Bool) (f : α → β) {Φ : List β → Prop} (ht : ∀ x ∈ xs, ∀ Ψ : Bool → Prop, Ψ (t x) → (ct x).run Ψ) (hf : ∀ x ∈ xs, t x = true → ∀ Ψ : β → Prop, Ψ (f x) → (cf x).run Ψ)
    (k : Φ (acc ++ (xs.filter t).map f)) : (comp xs acc ct cf).run Φ := by
  induction xs generalizing acc with
  | nil =>
    simp at k
    exact k
  | cons x xs ih =>
    refine ht x List.mem_cons_self _ ⟨fun e => ?_, fun e => ?_⟩
    · refine hf x List.mem_cons_self e _ (ih (fun y hy => ht y (List.mem_cons_of_mem _ hy)) (fun y hy => hf y (List.mem_cons_of_mem _ hy)) ?_)
      simpa [List.filter_cons, e] using k
    · refine ih (fun y hy => ht y (List.mem_cons_of_mem _ hy)) (fun y hy => hf y (List.mem_cons_of_mem _ hy)) ?_
      simpa [List.filter_cons, e] using k
theorem compG_wp {xs : List α} {ct : α → W Bool} {cf : α → W β} (t : α → Bool) (f : α → β) {Φ : List β → Prop} (hl : xs.length ≤ sizeLine) (ht : ∀ x ∈ xs, ∀ Ψ : Bool → Prop, Ψ (t x) → (ct x).run Ψ) (hf : ∀ x ∈ xs, t x = true → ∀ Ψ : β → Prop, Ψ (f x) → (cf x).run Ψ)
    (k : Φ ((xs.filter t).map f)) : (compG xs ct cf).run Φ := ⟨hl, comp_wp t f ht hf (by simpa using k)⟩
theorem small {n : Nat} (h : n ≤ 100000) : n ≤ sizeLine := Nat.le_trans h (by decide)
theorem small' {n : Nat} (h : n ≤ 100000) : n < sizeLine := Nat.lt_of_le_of_lt h (by decide)
theorem apd_wp {xs : List α} {x : α} {Φ : List α → Prop} (h : xs.length ≤ 100000) (k : Φ (xs ++ [x])) : (apd xs x).run Φ := ⟨small' h, k⟩
theorem sti_wp {xs : List α} {i : Int} {y : α} {Φ : List α → Prop} (h0 : 0 ≤ i) (h : i < xs.length) (k : Φ (xs.set i.toNat y)) : (sti xs i y).run Φ := ⟨i.toNat, ixN_nat' h0 h, k⟩
/-! slices -/
theorem sIx_none (n d : Nat) : HT.sIx n d none = d := HT.sIx_none n d
theorem cut_to {xs : List α} {k : Int} (h0 : 0 ≤ k) : cut xs none (some k) = xs.take k.toNat := by
  obtain ⟨j, rfl⟩ : ∃ j : Nat, k = j := ⟨k.toNat, by omega⟩
  unfold cut
  rw [HT.sIx_none, HT.sIx_nat]
  simp only [List.drop_zero, Nat.sub_zero, Int.toNat_natCast]
  by_cases h : j ≤ xs.length
  · rw [Nat.min_eq_left h]
  · rw [Nat.min_eq_right (by omega), List.take_of_length_le (Nat.le_refl _), List.take_of_length_le (by omega)]
theorem cut_init {xs : List α} : cut xs none (some (-1)) = xs.dropLast := by
  unfold cut
  rw [HT.sIx_none]
  have e : HT.sIx xs.length xs.length (some (-1)) = xs.length - 1 := by
    simp only [HT.sIx]
    rw [if_pos (by decide)]
    omega
  rw [e]
  simp [List.dropLast_eq_take]
theorem cut_from {xs : List α} {k : Int} (h0 : 0 ≤ k) : cut xs (some k) none = xs.drop k.toNat := by
  obtain ⟨j, rfl⟩ : ∃ j : Nat, k = j := ⟨k.toNat, by omega⟩
  unfold cut
  rw [HT.sIx_none, HT.sIx_nat]
  simp only [Int.toNat_natCast]
  by_cases h : j ≤ xs.length
  · rw [Nat.min_eq_left h, List.take_of_length_le (by simp)]
  · rw [Nat.min_eq_right (by omega)]
    simp
    omega
end
/-! ### equal data -/
/-- data that == tells apart as Lean does, and that may be compared -/
class Eqv (α : Type) [Py α] where
  eqv : ∀ x y : α, PyData.eqv (toPy x) (toPy y) = true ↔ x = y
  d : Nat
  shape : ∀ x : α, (toPy x).depth ≤ d
theorem eqvAll_map {α : Type} [Py α] [Eqv α] : ∀ xs ys : List α, PyData.eqvAll (xs.map Py.toPy) (ys.map Py.toPy) = true ↔ xs = ys
  | [], [] => by simp [PyData.eqvAll]
  | [], y :: ys => by simp [PyData.eqvAll]
  | x :: xs, [] => by simp [PyData.eqvAll]
  | x :: xs, y :: ys => by
    have h1 := Eqv.eqv x y
    have h2 := eqvAll_map xs ys
    simp only [List.map_cons, PyData.eqvAll, Bool.and_eq_true, List.cons.injEq]
    rw [← h1, ← h2]
theorem depthAll_map {α : Type} [Py α] [Eqv α] : ∀ xs : List α, PyData.depthAll (xs.map Py.toPy) ≤ Eqv.d α
  | [] => by simp [PyData.depthAll]
  | x :: xs => by
    have h1 := Eqv.shape x
    have h2 := depthAll_map xs
    simp only [List.map_cons, PyData.depthAll]
    exact Nat.max_le.mpr ⟨h1, h2⟩
instance : Eqv Int := ⟨fun x y => by simp [toPy, Py.toPy, PyData.eqv], 0, fun x => by simp [toPy, Py.toPy, PyData.depth]⟩
instance : Eqv Bool := ⟨fun x y => by simp [toPy, Py.toPy, PyData.eqv], 0, fun x => by simp [toPy, Py.toPy, PyData.depth]⟩
instance : Eqv Str := ⟨fun x y => by simp [toPy, Py.toPy, PyData.eqv], 0, fun x => by simp [toPy, Py.toPy, PyData.depth]⟩
instance {α : Type} [Py α] [Eqv α] : Eqv (List α) := ⟨fun x y => by
  show PyData.eqv (.list (x.map Py.toPy)) (.list (y.map Py.toPy)) = true ↔ x = y
  simp only [PyData.eqv]
  exact eqvAll_map x y, Eqv.d α + 1, fun x => by
  show PyData.depth (.list (x.map Py.toPy)) ≤ _
  simp only [PyData.depth]
  exact Nat.succ_le_succ (depthAll_map x)⟩
instance {α β : Type} [Py α] [Py β] [Eqv α] [Eqv β] : Eqv (α × β) := ⟨fun x y => by
  obtain ⟨x1, x2⟩ := x
  obtain ⟨y1, y2⟩ := y
  show PyData.eqv (.tuple [toPy x1, toPy x2]) (.tuple [toPy y1, toPy y2]) = true ↔ _
  simp only [PyData.eqv, PyData.eqvAll, Bool.and_eq_true, Bool.and_true, Prod.mk.injEq]
  rw [Eqv.eqv x1 y1, Eqv.eqv x2 y2], Eqv.d α + Eqv.d β + 1, fun x => by
  obtain ⟨x1, x2⟩ := x
  show PyData.depth (.tuple [toPy x1, toPy x2]) ≤ _
  have h1 := Eqv.shape x1
  have h2 := Eqv.shape x2
  simp only [PyData.depth, PyData.depthAll]
  omega⟩
instance {α β γ : Type} [Py α] [Py β] [Py γ] [Eqv α] [Eqv β] [Eqv γ] : Eqv (P3 α β γ) := ⟨fun x y => by
  obtain ⟨x1, x2, x3⟩ := x
  obtain ⟨y1, y2, y3⟩ := y
  show PyData.eqv (.tuple [toPy x1, toPy x2, toPy x3]) (.tuple [toPy y1, toPy y2, toPy y3]) = true ↔ _
  simp only [PyData.eqv, PyData.eqvAll, Bool.and_eq_true, Bool.and_true, P3.mk.injEq]
  rw [Eqv.eqv x1 y1, Eqv.eqv x2 y2, Eqv.eqv x3 y3], Eqv.d α + Eqv.d β + Eqv.d γ + 1, fun x => by
  obtain ⟨x1, x2, x3⟩ := x
  show PyData.depth (.tuple [toPy x1, toPy x2, toPy x3]) ≤ _
  have h1 := Eqv.shape x1
  have h2 := Eqv.shape x2
  have h3 := Eqv.shape x3
  simp only [PyData.depth, PyData.depthAll]
  omega⟩
instance {α β γ δ : Type} [Py α] [Py β] [Py γ] [Py δ] [Eqv α] [Eqv β] [Eqv γ] [Eqv δ] : Eqv (P4 α β γ δ) := ⟨fun x y => by
  obtain ⟨x1, x2, x3, x4⟩ := x
  obtain ⟨y1, y2, y3, y4⟩ := y
  show PyData.eqv (.tuple [toPy x1, toPy x2, toPy x3, toPy x4]) (.tuple [toPy y1, toPy y2, toPy y3, toPy y4]) = true ↔ _
  simp only [PyData.eqv, PyData.eqvAll, Bool.and_eq_true, Bool.and_true, P4.mk.injEq]
  rw [Eqv.eqv x1 y1, Eqv.eqv x2 y2, Eqv.eqv x3 y3, Eqv.eqv x4 y4], Eqv.d α + Eqv.d β + Eqv.d γ + Eqv.d δ + 1, fun x => by
  obtain ⟨x1, x2, x3, x4⟩ := x
  show PyData.depth (.tuple [toPy x1, toPy x2, toPy x3, toPy x4]) ≤ _
  have h1 := Eqv.shape x1
  have h2 := Eqv.shape x2
  have h3 := Eqv.shape x3
  have h4 := Eqv.shape x4
  simp only [PyData.depth, PyData.depthAll]
  omega⟩
theorem eqD_iff {α : Type} [Py α] [Eqv α] {x y : α} : eqD x y = true ↔ x = y := Eqv.eqv x y
theorem eqD_dec {α : Type} [Py α] [Eqv α] [DecidableEq α] {x y : α} : eqD x y = decide (x = y) := by
  by_cases h : x = y
  · rw [decide_eq_true h]; exact eqD_iff.mpr h
  · rw [decide_eq_false h]
    cases e : eqD x y with
    | false => rfl
    | true => exact absurd (eqD_iff.mp e) h
theorem eqD_self {α : Type} [Py α] [Eqv α] (x : α) : eqD x x = true := eqD_iff.mpr rfl
/-- what may be laid at all: the texts in it are of signs that there are -/
class Lay (α : Type) [Py α] where
  ok : α → Prop
  lay : ∀ x : α, ok x → (toPy x).canLay0 = true
theorem canLayAll_map {α : Type} [Py α] [Lay α] : ∀ xs : List α, (∀ x ∈ xs, Lay.ok x) → PyData.canLayAll0 (xs.map Py.toPy) = true
  | [], _ => by simp [PyData.canLayAll0]
  | x :: xs, h => by
    simp only [List.map_cons, PyData.canLayAll0, Bool.and_eq_true]
    exact ⟨Lay.lay x (h x List.mem_cons_self), canLayAll_map xs fun y hy => h y (List.mem_cons_of_mem _ hy)⟩
instance : Lay Int := ⟨fun _ => True, fun x _ => by simp [toPy, Py.toPy, PyData.canLay0]⟩
instance : Lay Bool := ⟨fun _ => True, fun x _ => by simp [toPy, Py.toPy, PyData.canLay0]⟩
instance : Lay Str := ⟨fun x => PyData.strOk x = true, fun x h => by simpa [toPy, Py.toPy, PyData.canLay0] using h⟩
instance {α : Type} [Py α] [Lay α] : Lay (List α) := ⟨fun xs => ∀ x ∈ xs, Lay.ok x, fun xs h => by
  show PyData.canLay0 (.list (xs.map Py.toPy)) = true
  simp only [PyData.canLay0]
  exact canLayAll_map xs h⟩
instance {α β : Type} [Py α] [Py β] [Lay α] [Lay β] : Lay (α × β) := ⟨fun x => Lay.ok x.1 ∧ Lay.ok x.2, fun x h => by
  show PyData.canLay0 (.tuple [toPy x.1, toPy x.2]) = true
  simp only [PyData.canLay0, PyData.canLayAll0, Bool.and_eq_true, Bool.and_true]
  exact ⟨Lay.lay _ h.1, Lay.lay _ h.2⟩⟩
instance {α β γ : Type} [Py α] [Py β] [Py γ] [Lay α] [Lay β] [Lay γ] : Lay (P3 α β γ) := ⟨fun x => Lay.ok x.a ∧ Lay.ok x.b ∧ Lay.ok x.c, fun x h => by
  show PyData.canLay0 (.tuple [toPy x.a, toPy x.b, toPy x.c]) = true
  simp only [PyData.canLay0, PyData.canLayAll0, Bool.and_eq_true, Bool.and_true]
  exact ⟨Lay.lay _ h.1, Lay.lay _ h.2.1, Lay.lay _ h.2.2⟩⟩
instance {α β γ δ : Type} [Py α] [Py β] [Py γ] [Py δ] [Lay α] [Lay β] [Lay γ] [Lay δ] : Lay (P4 α β γ δ) := ⟨fun x => Lay.ok x.a ∧ Lay.ok x.b ∧ Lay.ok x.c ∧ Lay.ok x.d, fun x h => by
  show PyData.canLay0 (.tuple [toPy x.a, toPy x.b, toPy x.c, toPy x.d]) = true
  simp only [PyData.canLay0, PyData.canLayAll0, Bool.and_eq_true, Bool.and_true]
  exact ⟨Lay.lay _ h.1, Lay.lay _ h.2.1, Lay.lay _ h.2.2.1, Lay.lay _ h.2.2.2⟩⟩
theorem okD_of {α : Type} [Py α] [Eqv α] [Lay α] {x : α} (h : Lay.ok x) (hd : Eqv.d α ≤ 64 := by decide) : okD x := by
  unfold okD SeqAt.shaped
  rw [Bool.and_eq_true]
  exact ⟨Lay.lay x h, decide_eq_true (Nat.le_trans (Eqv.shape x) hd)⟩
/-- kinds in which no text stands -/
class Pl (α : Type) [Py α] : Prop where
  lay : ∀ x : α, (toPy x).canLay0 = true
theorem plAll {α : Type} [Py α] [Pl α] : ∀ xs : List α, PyData.canLayAll0 (xs.map Py.toPy) = true
  | [] => by simp [PyData.canLayAll0]
  | x :: xs => by
    simp only [List.map_cons, PyData.canLayAll0, Bool.and_eq_true]
    exact ⟨Pl.lay x, plAll xs⟩
instance : Pl Int := ⟨fun x => by simp [toPy, Py.toPy, PyData.canLay0]⟩
instance : Pl Bool := ⟨fun x => by simp [toPy, Py.toPy, PyData.canLay0]⟩
instance : Pl Unit := ⟨fun x => by simp [toPy, Py.toPy, PyData.canLay0]⟩
instance {α : Type} [Py α] [Pl α] : Pl (List α) := ⟨fun xs => by
  show PyData.canLay0 (.list (xs.map Py.toPy)) = true
  simp only [PyData.canLay0]
  exact plAll xs⟩
instance {α : Type} [Py α] [Pl α] : Pl (Option α) := ⟨fun x => by
  cases x with
  | none => show PyData.canLay0 .none = true; simp [PyData.canLay0]
  | some a => exact Pl.lay a⟩
instance {α β : Type} [Py α] [Py β] [Pl α] [Pl β] : Pl (α × β) := ⟨fun x => by
  show PyData.canLay0 (.tuple [toPy x.1, toPy x.2]) = true
  simp only [PyData.canLay0, PyData.canLayAll0, Bool.and_eq_true, Bool.and_true]
  exact ⟨Pl.lay _, Pl.lay _⟩⟩
instance {α β γ : Type} [Py α] [Py β] [Py γ] [Pl α] [Pl β] [Pl γ] : Pl (P3 α β γ) := ⟨fun x => by
  show PyData.canLay0 (.tuple [toPy x.a, toPy x.b, toPy x.c]) = true
  simp only [PyData.canLay0, PyData.canLayAll0, Bool.and_eq_true, Bool.and_true]
  exact ⟨Pl.lay _, Pl.lay _, Pl.lay _⟩⟩
instance {α β γ δ : Type} [Py α] [Py β] [Py γ] [Py δ] [Pl α] [Pl β] [Pl γ] [Pl δ] : Pl (P4 α β γ δ) := ⟨fun x => by
  show PyData.canLay0 (.tuple [toPy x.a, toPy x.b, toPy x.c, toPy x.d]) = true
  simp only [PyData.canLay0, PyData.canLayAll0, Bool.and_eq_true, Bool.and_true]
  exact ⟨Pl.lay _, Pl.lay _, Pl.lay _, Pl.lay _⟩⟩
/-- kinds that are never None -/
class Nn (α : Type) [Py α] : Prop where
  ne : ∀ x : α, toPy x ≠ .none
  l : ∀ x : α, PyData.eqv (toPy x) .none = false
  r : ∀ x : α, PyData.eqv .none (toPy x) = false
instance : Nn Int := ⟨fun x e => (by cases e), fun x => (by simp [toPy, Py.toPy, PyData.eqv]), fun x => (by simp [toPy, Py.toPy, PyData.eqv])⟩
instance : Nn Bool := ⟨fun x e => (by cases e), fun x => (by simp [toPy, Py.toPy, PyData.eqv]), fun x => (by simp [toPy, Py.toPy, PyData.eqv])⟩
instance : Nn Str := ⟨fun x e => (by cases e), fun x => (by simp [toPy, Py.toPy, PyData.eqv]), fun x => (by simp [toPy, Py.toPy, PyData.eqv])⟩
instance {α : Type} [Py α] : Nn (List α) := ⟨fun x e => (by cases e), fun x => (by simp [toPy, Py.toPy, PyData.eqv]), fun x => (by simp [toPy, Py.toPy, PyData.eqv])⟩
instance {α β : Type} [Py α] [Py β] : Nn (α × β) := ⟨fun x e => (by cases e), fun x => (by simp [toPy, Py.toPy, PyData.eqv]), fun x => (by simp [toPy, Py.toPy, PyData.eqv])⟩
instance {α β γ : Type} [Py α] [Py β] [Py γ] : Nn (P3 α β γ) := ⟨fun x e => (by cases e), fun x => (by simp [toPy, Py.toPy, PyData.eqv]), fun x => (by simp [toPy, Py.toPy, PyData.eqv])⟩
instance {α β γ δ : Type} [Py α] [Py β] [Py γ] [Py δ] : Nn (P4 α β γ δ) := ⟨fun x e => (by cases e), fun x => (by simp [toPy, Py.toPy, PyData.eqv]), fun x => (by simp [toPy, Py.toPy, PyData.eqv])⟩
theorem nn {α : Type} [Py α] [Nn α] {x : Option α} : ∀ b : α, x = some b → toPy b ≠ .none := fun b _ => Nn.ne b
instance {α : Type} [Py α] [Eqv α] [Nn α] : Eqv (Option α) := ⟨fun x y => by
  cases x with
  | none =>
    cases y with
    | none => show PyData.eqv .none .none = true ↔ _; simp [PyData.eqv]
    | some b => show PyData.eqv .none (toPy b) = true ↔ _; rw [Nn.r]; simp
  | some a =>
    cases y with
    | none => show PyData.eqv (toPy a) .none = true ↔ _; rw [Nn.l]; simp
    | some b => show PyData.eqv (toPy a) (toPy b) = true ↔ _; rw [Eqv.eqv a b]; simp, Eqv.d α, fun x => by
  cases x with
  | none => show PyData.depth .none ≤ _; simp [PyData.depth]
  | some a => exact Eqv.shape a⟩
theorem okD_pl {α : Type} [Py α] [Eqv α] [Pl α] (x : α) (hd : Eqv.d α ≤ 64 := by decide) : okD x := by
  unfold okD SeqAt.shaped
  rw [Bool.and_eq_true]
  exact ⟨Pl.lay x, decide_eq_true (Nat.le_trans (Eqv.shape x) hd)⟩
theorem inD_iff {α : Type} [Py α] [Eqv α] {x : α} {ys : List α} : inD x ys = true ↔ x ∈ ys := by
  unfold inD
  rw [List.any_eq_true]
  constructor
  · rintro ⟨y, hy, e⟩
    rw [← eqD_iff.mp e]; exact hy
  · intro h
    exact ⟨x, h, eqD_self x⟩
theorem inD_dec {α : Type} [Py α] [Eqv α] [DecidableEq α] {x : α} {ys : List α} : inD x ys = decide (x ∈ ys) := by
  by_cases h : x ∈ ys
  · rw [decide_eq_true h]; exact inD_iff.mpr h
  · rw [decide_eq_false h]
    cases e : inD x ys with
    | false => rfl
    | true => exact absurd (inD_iff.mp e) h
end Z

namespace M
open PySem L2 Z
def sub_NoteError : Nat → Bool
  | 0 => true
  | _ => true
def sub_NoOrder : Nat → Bool
  | 0 => true
  | _ => true
def subT_ValueError : Nat → Bool
  | 0 => true
  | _ => true
def sub_Held : Nat → Bool
  | 0 => false
  | _ => false
def sub_NoCut : Nat → Bool
  | 0 => false
  | _ => false
def sub_NoForm : Nat → Bool
  | 0 => false
  | _ => false
def sub_NoHand : Nat → Bool
  | 0 => false
  | _ => false
def sub_NoneYet : Nat → Bool
  | 0 => false
  | _ => false
def sub_NoNumber : Nat → Bool
  | 0 => false
  | _ => false
def sub_NoText : Nat → Bool
  | 0 => false
  | _ => false
def sub_NoNote : Nat → Bool
  | 0 => false
  | _ => false
def sub_NoPlace : Nat → Bool
  | 0 => false
  | _ => false
def sub_Over : Nat → Bool
  | 0 => false
  | _ => false
def sub_RowError : Nat → Bool
  | 0 => false
  | _ => false
def sub_TooMany : Nat → Bool
  | 0 => false
  | _ => false
def m_touches_meet (one_ : (P3 Int Str Int)) (other_ : (P3 Int Str Int)) : W (Bool) :=
  W.ite ((decide (one_.a = other_.a)) || (!decide (one_.c = other_.c))) (W.ret false) (W.ret ((!decide (one_.b = ("load" : Str))) || (!decide (other_.b = ("load" : Str)))))
def m_is_step (web_ : (List (P3 Int Str Int))) (i_ : Int) (j_ : Int) : W (Bool) :=
  W.bind (W.opt (atI web_ i_)) fun t1 => W.bind (W.opt (atI web_ j_)) fun t4 => W.bind (W.ite (decide (t1.a = t4.a)) (W.ret true) (W.bind (W.opt (atI web_ i_)) fun t7 => W.bind (W.opt (atI web_ j_)) fun t9 => W.bind (m_touches_meet t7 t9) fun t11 => W.ret t11)) (fun t15 => W.ret t15)
def m_stands_of_L1 (order_ : (List Int)) (at_ : Int) (stands_ : (List Int)) : W ((List Int)) :=
  W.bind (W.opt (atI order_ at_)) fun t18 => W.bind (sti stands_ t18 at_) fun stands_ => W.ret (stands_)
def m_stands_of (web_ : (List (P3 Int Str Int))) (order_ : (List Int)) : W (Ex (List Int)) :=
  W.guard (RgOk 0 ((web_).length : Int)) (W.guard (okD (srtI order_) ∧ okD (rng 0 ((web_).length : Int))) (W.ite (!eqD (srtI order_) (rng 0 ((web_).length : Int))) (W.ret (Ex.er ⟨0, .none⟩)) (W.guard (repG ([(0 : Int)] : (List Int)) ((web_).length : Int)) (W.bind (W.ret (repL ([(0 : Int)] : (List Int)) ((web_).length : Int))) fun stands_ => W.guard (rngOk 0 ((order_).length : Int)) (W.bind (W.forL (rng 0 ((order_).length : Int)) stands_ (fun a s => m_stands_of_L1 order_ a s)) (fun s => (fun stands_ => W.ret (Ex.ok stands_)) s))))))
def m_same_run_L1 (web_ : (List (P3 Int Str Int))) (stands_ : (List Int)) (j_ : Int) (i_ : Int) : W (Ctl (Ctl (Ex Bool) (Unit)) (Unit)) :=
  W.bind (W.opt (atI stands_ i_)) fun t7 => W.bind (W.opt (atI stands_ j_)) fun t9 => W.bind (W.ite (decide (t7 > t9)) (W.bind (m_is_step web_ i_ j_) fun t11 => W.ret t11) (W.ret false)) (fun t15 => W.ite t15 (W.ret (Ctl.rt (Ctl.rt (Ex.ok false)))) (W.ret (Ctl.nx ())))
def m_same_run_L2 (web_ : (List (P3 Int Str Int))) (stands_ : (List Int)) (j_ : Int) : W (Ctl (Ex Bool) (Unit)) :=
  W.guard (rngOk 0 j_) (W.bind (W.forC (rng 0 j_) () (fun a s => m_same_run_L1 web_ stands_ j_ a)) fun c => W.after c (fun _ => W.ret (Ctl.nx ())))
def m_same_run (web_ : (List (P3 Int Str Int))) (order_ : (List Int)) : W (Ex Bool) :=
  W.exm (m_stands_of web_ order_) (fun t1 => W.bind (W.ret t1) fun stands_ => W.guard (rngOk 0 ((web_).length : Int)) (W.bind (W.forC (rng 0 ((web_).length : Int)) () (fun a s => m_same_run_L2 web_ stands_ a)) fun c => W.after c (fun _ => W.ret (Ex.ok true)))) (fun er => W.ret (Ex.er er))
def m_law_spring_L1 (cell_ : Int) (figures_ : Int) (stir_ : Int) : W (Int × Int) :=
  W.guard (CPow (10 : Int) (18 : Int)) (W.bind (W.ite (decide ((if cell_ < 0 then -cell_ else cell_) ≥ ((10 : Int) ^ ((18 : Int)).toNat))) (W.guard (CPow (10 : Int) (60 : Int)) (W.guard (CMulW figures_ ((10 : Int) ^ ((60 : Int)).toNat)) (W.guard (CPow (10 : Int) (60 : Int)) (W.guard (0 < ((10 : Int) ^ ((60 : Int)).toNat)) (W.bind (W.ret ((figures_ * ((10 : Int) ^ ((60 : Int)).toNat)) + ((if cell_ < 0 then -cell_ else cell_) % ((10 : Int) ^ ((60 : Int)).toNat)))) fun figures_ => W.ret (figures_)))))) (W.ret (figures_))) (fun s => (fun figures_ => W.guard (CMulW stir_ (69069 : Int)) (W.bind (W.ret ((((stir_ * (69069 : Int)) + (cell_ % (2305843009213693921 : Int))) + (7 : Int)) % (2305843009213693951 : Int))) fun stir_ => W.ret ((figures_, stir_)))) s))
def m_law_spring (script_ : (List Int)) : W ((H3 Int Int Int)) :=
  W.bind (W.ret (0 : Int)) fun figures_ => W.bind (W.ret (88651 : Int)) fun stir_ => W.bind (W.forL (Z.cut script_ none (some (63 : Int))) (figures_, stir_) (fun a s => m_law_spring_L1 a s.1 s.2)) (fun s => (fun figures_ stir_ => W.ret (⟨figures_, stir_, (0 : Int)⟩ : (H3 Int Int Int))) s.1 s.2)
def m_law_draw (spring_ : (H3 Int Int Int)) (many_ : Int) : W (Int × (H3 Int Int Int)) :=
  W.ite (decide (spring_.a > (0 : Int))) (W.guard (0 < many_) (W.bind (W.ret (spring_.a % many_)) fun found_ => W.guard (CDivW spring_.a many_) (W.bind (W.ret ({ spring_ with a := (spring_.a / many_) } : (H3 Int Int Int))) fun spring_ => W.ret (found_, spring_)))) (W.bind (W.ret ({ spring_ with c := (spring_.c + (1 : Int)) } : (H3 Int Int Int))) fun spring_ => W.guard (CMulW spring_.b spring_.b) (W.bind (W.ret ((spring_.b * spring_.b) % (2305843009213693951 : Int))) fun stir_ => W.guard (CMulW (7919 : Int) spring_.c) (W.guard (CMulW ((7919 : Int) * spring_.c) spring_.b) (W.bind (W.ret ({ spring_ with b := (((stir_ + (((7919 : Int) * spring_.c) * spring_.b)) + (104729 : Int)) % (2305843009213693951 : Int)) } : (H3 Int Int Int))) fun spring_ => W.guard (CDivW spring_.b (65537 : Int)) (W.guard (0 < many_) (W.ret (((spring_.b / (65537 : Int)) % many_), spring_)))))))
def m_law_web_L1 (hands_ : Int) (first_ : Int) (room_ : Int) (base_ : Int) (kinds_ : (List Str)) (at_ : Int) (spring_ : (H3 Int Int Int)) (web_ : (List (P3 Int Str Int))) : W ((H3 Int Int Int) × (List (P3 Int Str Int))) :=
  W.bind2 (m_law_draw spring_ hands_) fun t59 spring_ => W.bind (W.ret ((first_ + t59) % (8 : Int))) fun hand_ => W.bind2 (m_law_draw spring_ ((kinds_).length : Int)) fun t63 spring_ => W.bind (W.opt (atI kinds_ t63)) fun t67 => W.bind (W.ret t67) fun kind_ => W.bind2 (m_law_draw spring_ room_) fun t69 spring_ => W.bind (apd web_ (⟨hand_, kind_, ((base_ + t69) % (20 : Int))⟩ : (P3 Int Str Int))) fun web_ => W.ret ((spring_, web_))
def m_law_web (spring_ : (H3 Int Int Int)) (most_ : Int) : W ((List (P3 Int Str Int)) × (H3 Int Int Int)) :=
  W.bind2 (m_law_draw spring_ (32 : Int)) fun t1 spring_ => W.bind (W.ret t1) fun shape_ => W.bind (W.opt (atI ([(31 : Int), (101 : Int), (most_ + (1 : Int))] : (List Int)) ((if (decide ((shape_ % (8 : Int)) = (7 : Int))) then (1 : Int) else 0) + (if (decide (shape_ = (31 : Int))) then (1 : Int) else 0)))) fun t9 => W.bind2 (m_law_draw spring_ t9) fun t11 spring_ => W.bind (W.ret t11) fun size_ => W.bind2 (m_law_draw spring_ (8 : Int)) fun t15 spring_ => W.bind (W.ret ((1 : Int) + t15)) fun hands_ => W.bind2 (m_law_draw spring_ (8 : Int)) fun t19 spring_ => W.bind (W.ret t19) fun first_ => W.bind2 (m_law_draw spring_ (5 : Int)) fun t27 spring_ => W.bind (W.opt (atI ([(1 : Int), (2 : Int), (3 : Int), (5 : Int), (20 : Int)] : (List Int)) t27)) fun t31 => W.bind (W.ret t31) fun room_ => W.bind2 (m_law_draw spring_ (20 : Int)) fun t33 spring_ => W.bind (W.ret t33) fun base_ => W.bind (W.ret ([("load" : Str), ("store" : Str), ("swap" : Str)] : (List Str))) fun kinds_ => W.bind2 (m_law_draw spring_ (3 : Int)) fun t43 spring_ => W.bind (W.ite (decide (t43 = (1 : Int))) (W.bind (W.ret ([("load" : Str), ("load" : Str), ("load" : Str), ("load" : Str), ("store" : Str), ("swap" : Str)] : (List Str))) fun kinds_ => W.ret (kinds_)) (W.ret (kinds_))) (fun s => (fun kinds_ => W.bind (W.ret ([] : (List (P3 Int Str Int)))) fun web_ => W.guard (rngOk 0 size_) (W.bind (W.forL (rng 0 size_) (spring_, web_) (fun a s => m_law_web_L1 hands_ first_ room_ base_ kinds_ a s.1 s.2)) (fun s => (fun spring_ web_ => W.ret (web_, spring_)) s.1 s.2))) s)
def m_law_meets (one_ : (P3 Int Str Int)) (other_ : (P3 Int Str Int)) : W (Bool) :=
  W.ite ((decide (one_.a = other_.a)) || (!decide (one_.c = other_.c))) (W.ret false) (W.ret ((!decide (one_.b = ("load" : Str))) || (!decide (other_.b = ("load" : Str)))))
def m_law_step (one_ : (P3 Int Str Int)) (other_ : (P3 Int Str Int)) : W (Bool) :=
  W.bind (W.ite (decide (one_.a = other_.a)) (W.ret true) (W.bind (m_law_meets one_ other_) fun t3 => W.ret t3)) (fun t7 => W.ret t7)
def m_law_free_order_L1 (web_ : (List (P3 Int Str Int))) (i_ : Int) (j_ : Int) (waits_ : (List Int)) (free_ : (List Int)) : W ((List Int) × (List Int)) :=
  W.bind (W.opt (atI web_ i_)) fun t47 => W.bind (W.opt (atI web_ j_)) fun t49 => W.bind (m_law_step t47 t49) fun t51 => W.bind (W.ite t51 (W.bind (W.opt (atI waits_ j_)) fun t55 => W.bind (sti waits_ j_ (t55 - (1 : Int))) fun waits_ => W.bind (W.opt (atI waits_ j_)) fun t57 => W.bind (W.ite (decide (t57 = (0 : Int))) (W.bind (apd free_ j_) fun free_ => W.ret (free_)) (W.ret (free_))) (fun s => (fun free_ => W.ret ((waits_, free_))) s)) (W.ret ((waits_, free_)))) (fun s => (fun waits_ free_ => W.ret ((waits_, free_))) s.1 s.2)
def m_law_free_order_L2 (web_ : (List (P3 Int Str Int))) (again_ : Int) (spring_ : (H3 Int Int Int)) (waits_ : (List Int)) (free_ : (List Int)) (order_ : (List Int)) : W ((H3 Int Int Int) × (List Int) × (List Int) × (List Int)) :=
  W.bind2 (m_law_draw spring_ ((free_).length : Int)) fun t40 spring_ => W.bind (popI free_ t40) fun q => (fun t44 free_ => W.bind (W.ret t44) fun i_ => W.bind (apd order_ i_) fun order_ => W.guard (rngOk (i_ + (1 : Int)) ((web_).length : Int)) (W.bind (W.forL (rng (i_ + (1 : Int)) ((web_).length : Int)) (waits_, free_) (fun a s => m_law_free_order_L1 web_ i_ a s.1 s.2)) (fun s => (fun waits_ free_ => W.ret ((spring_, waits_, free_, order_))) s.1 s.2))) q.1 q.2
def m_law_free_order (spring_ : (H3 Int Int Int)) (web_ : (List (P3 Int Str Int))) : W ((List Int) × (H3 Int Int Int)) :=
  W.guard (rngOk 0 ((web_).length : Int)) (W.bind (compG (rng 0 ((web_).length : Int)) (fun j_ => W.ret true) (fun j_ => W.guard (rngOk 0 j_) (W.bind (compG (rng 0 j_) (fun i_ => W.bind (W.opt (atI web_ i_)) fun t5 => W.bind (W.opt (atI web_ j_)) fun t7 => W.bind (m_law_step t5 t7) fun t9 => W.ret t9) (fun i_ => W.ret i_)) fun t16 => W.ret ((t16).length : Int)))) fun t22 => W.bind (W.ret t22) fun waits_ => W.guard (rngOk 0 ((web_).length : Int)) (W.bind (compG (rng 0 ((web_).length : Int)) (fun j_ => W.bind (W.opt (atI waits_ j_)) fun t27 => W.ret (decide (t27 = (0 : Int)))) (fun j_ => W.ret j_)) fun t32 => W.bind (W.ret t32) fun free_ => W.bind (W.ret ([] : (List Int))) fun order_ => W.guard (rngOk 0 ((web_).length : Int)) (W.bind (W.forL (rng 0 ((web_).length : Int)) (spring_, waits_, free_, order_) (fun a s => m_law_free_order_L2 web_ a s.1 s.2.1 s.2.2.1 s.2.2.2)) (fun s => (fun spring_ waits_ free_ order_ => W.ret (order_, spring_)) s.1 s.2.1 s.2.2.1 s.2.2.2))))
def m_law_dealt_L1 (place_ : Int) (spring_ : (H3 Int Int Int)) (found_ : (List Int)) : W ((H3 Int Int Int) × (List Int)) :=
  W.bind2 (m_law_draw spring_ (((found_).length : Int) + (1 : Int))) fun t8 spring_ => W.bind (W.ret t8) fun at_ => W.guard (((Z.cut found_ none (some at_))).length + (([place_] : (List Int))).length ≤ sizeLine) (W.guard ((((Z.cut found_ none (some at_)) ++ ([place_] : (List Int)))).length + ((Z.cut found_ (some at_) none)).length ≤ sizeLine) (W.bind (W.ret (((Z.cut found_ none (some at_)) ++ ([place_] : (List Int))) ++ (Z.cut found_ (some at_) none))) fun found_ => W.ret ((spring_, found_))))
def m_law_dealt (spring_ : (H3 Int Int Int)) (order_ : (List Int)) : W ((List Int) × (H3 Int Int Int)) :=
  W.bind (W.ret ([] : (List Int))) fun found_ => W.bind (W.forL order_ (spring_, found_) (fun a s => m_law_dealt_L1 a s.1 s.2)) (fun s => (fun spring_ found_ => W.ret (found_, spring_)) s.1 s.2)
def m_law_bent (spring_ : (H3 Int Int Int)) (order_ : (List Int)) (kind_ : Int) : W ((List Int) × (H3 Int Int Int)) :=
  W.bind (W.ret ((order_).length : Int)) fun many_ => W.bind2 (m_law_draw spring_ (if many_ > (1 : Int) then many_ else (1 : Int))) fun t1 spring_ => W.bind (W.ret t1) fun at_ => W.bind2 (m_law_draw spring_ (if many_ > (1 : Int) then many_ else (1 : Int))) fun t5 spring_ => W.bind (W.ret t5) fun to_ => W.ite (decide (kind_ = (7 : Int))) (W.bind2 (m_law_draw spring_ (many_ + (1 : Int))) fun t9 spring_ => W.bind (W.ret t9) fun at_ => W.guard (CPow (10 : Int) (29 : Int)) (W.guard (CDivW many_ (2 : Int)) (W.bind2 (m_law_draw spring_ (5 : Int)) fun t21 spring_ => W.bind (W.opt (atI ([(0 : Int), many_, (-(1 : Int)), ((10 : Int) ^ ((29 : Int)).toNat), (many_ / (2 : Int))] : (List Int)) t21)) fun t25 => W.guard (((Z.cut order_ none (some at_))).length + (([t25] : (List Int))).length ≤ sizeLine) (W.guard ((((Z.cut order_ none (some at_)) ++ ([t25] : (List Int)))).length + ((Z.cut order_ (some at_) none)).length ≤ sizeLine) (W.ret ((((Z.cut order_ none (some at_)) ++ ([t25] : (List Int))) ++ (Z.cut order_ (some at_) none)), spring_)))))) (W.ite ((decide (many_ = (0 : Int))) || (decide (kind_ < (3 : Int)))) (W.ret (order_, spring_)) (W.ite ((decide (kind_ = (3 : Int))) && (decide ((at_ + (1 : Int)) < many_))) (W.bind (W.opt (atI order_ (at_ + (1 : Int)))) fun t49 => W.bind (W.opt (atI order_ at_)) fun t51 => W.guard (((Z.cut order_ none (some at_))).length + (([t49, t51] : (List Int))).length ≤ sizeLine) (W.guard ((((Z.cut order_ none (some at_)) ++ ([t49, t51] : (List Int)))).length + ((Z.cut order_ (some (at_ + (2 : Int))) none)).length ≤ sizeLine) (W.ret ((((Z.cut order_ none (some at_)) ++ ([t49, t51] : (List Int))) ++ (Z.cut order_ (some (at_ + (2 : Int))) none)), spring_)))) (W.ite (decide (kind_ = (4 : Int))) (W.guard (((Z.cut order_ none (some at_))).length + ((Z.cut order_ (some (at_ + (1 : Int))) none)).length ≤ sizeLine) (W.bind (W.ret ((Z.cut order_ none (some at_)) ++ (Z.cut order_ (some (at_ + (1 : Int))) none))) fun left_ => W.bind (W.opt (atI order_ at_)) fun t89 => W.guard (((Z.cut left_ none (some to_))).length + (([t89] : (List Int))).length ≤ sizeLine) (W.guard ((((Z.cut left_ none (some to_)) ++ ([t89] : (List Int)))).length + ((Z.cut left_ (some to_) none)).length ≤ sizeLine) (W.ret ((((Z.cut left_ none (some to_)) ++ ([t89] : (List Int))) ++ (Z.cut left_ (some to_) none)), spring_))))) (W.ite (decide (kind_ = (5 : Int))) (W.bind2 (m_law_dealt spring_ order_) fun t109 spring_ => W.ret (t109, spring_)) (W.ite (decide (kind_ = (6 : Int))) (W.bind (W.opt (atI order_ to_)) fun t113 => W.bind (W.opt (atI order_ to_)) fun t115 => W.guard (CPow (10 : Int) (29 : Int)) (W.bind (W.ret ([t113, many_, ((-(1 : Int)) - t115), (-(1 : Int)), ((10 : Int) ^ ((29 : Int)).toNat)] : (List Int))) fun some_ => W.bind2 (m_law_draw spring_ (5 : Int)) fun t127 spring_ => W.bind (W.opt (atI some_ t127)) fun t131 => W.guard (((Z.cut order_ none (some at_))).length + (([t131] : (List Int))).length ≤ sizeLine) (W.guard ((((Z.cut order_ none (some at_)) ++ ([t131] : (List Int)))).length + ((Z.cut order_ (some (at_ + (1 : Int))) none)).length ≤ sizeLine) (W.ret ((((Z.cut order_ none (some at_)) ++ ([t131] : (List Int))) ++ (Z.cut order_ (some (at_ + (1 : Int))) none)), spring_))))) (W.guard (((Z.cut order_ none (some at_))).length + ((Z.cut order_ (some (at_ + (1 : Int))) none)).length ≤ sizeLine) (W.ret (((Z.cut order_ none (some at_)) ++ (Z.cut order_ (some (at_ + (1 : Int))) none)), spring_))))))))
def m_law_keeps_L1 (order_ : (List Int)) (at_ : Int) (stands_ : (List Int)) : W ((List Int)) :=
  W.bind (W.opt (atI order_ at_)) fun t10 => W.bind (sti stands_ t10 at_) fun stands_ => W.ret (stands_)
def m_law_keeps_L2 (web_ : (List (P3 Int Str Int))) (stands_ : (List Int)) (j_ : Int) : W (Ctl Bool (Unit)) :=
  W.guard (rngOk 0 j_) (W.bind (compG (rng 0 j_) (fun i_ => W.bind (W.opt (atI stands_ i_)) fun t16 => W.bind (W.opt (atI stands_ j_)) fun t18 => W.bind (W.ite (decide (t16 > t18)) (W.bind (W.opt (atI web_ i_)) fun t20 => W.bind (W.opt (atI web_ j_)) fun t22 => W.bind (m_law_step t20 t22) fun t24 => W.ret t24) (W.ret false)) (fun t28 => W.ret t28)) (fun i_ => W.ret i_)) fun t34 => W.guard (okD t34 ∧ okD ([] : (List Int))) (W.ite (!eqD t34 ([] : (List Int))) (W.ret (Ctl.rt false)) (W.ret (Ctl.nx ()))))
def m_law_keeps (web_ : (List (P3 Int Str Int))) (order_ : (List Int)) : W (Bool) :=
  W.guard (repG ([(0 : Int)] : (List Int)) ((web_).length : Int)) (W.bind (W.ret (repL ([(0 : Int)] : (List Int)) ((web_).length : Int))) fun stands_ => W.guard (rngOk 0 ((order_).length : Int)) (W.bind (W.forL (rng 0 ((order_).length : Int)) stands_ (fun a s => m_law_keeps_L1 order_ a s)) (fun s => (fun stands_ => W.guard (rngOk 0 ((web_).length : Int)) (W.bind (W.forC (rng 0 ((web_).length : Int)) () (fun a s => m_law_keeps_L2 web_ stands_ a)) fun c => W.after c (fun _ => W.ret true))) s)))
def m_law_right_R1 (web_ : (List (P3 Int Str Int))) (order_ : (List Int)) (handed_ : ((List (P3 Int Str Int)) × (List Int))) (found_ : (Option Bool)) (marks_ : (List Bool)) : W (Bool) :=
  W.guard (okD handed_ ∧ okD (web_, order_)) (W.ite (!eqD handed_ (web_, order_)) (W.ret false) (W.guard (RgOk 0 ((web_).length : Int)) (W.guard (okD (srtI order_) ∧ okD (rng 0 ((web_).length : Int))) (W.ite (!eqD (srtI order_) (rng 0 ((web_).length : Int))) (W.guard (okD marks_ ∧ okD ([true, false, false] : (List Bool))) (W.ret (eqD marks_ ([true, false, false] : (List Bool))))) (W.bind (W.ite (if found_.isSome then true else false) (W.bind (m_law_keeps web_ order_) fun t55 => W.guard (okD found_ ∧ okD t55) (W.ret (eqD found_ t55))) (W.ret false)) (fun t59 => W.ret t59))))))
def m_law_right (web_ : (List (P3 Int Str Int))) (order_ : (List Int)) : W (Bool) :=
  W.bind (W.ret (web_, order_)) fun handed_ => W.bind (W.ret (none : (Option Bool))) fun found_ => W.bind (W.ret ([] : (List Bool))) fun marks_ => W.bind (W.exm (W.exm (m_same_run handed_.1 handed_.2) (fun t24 => W.bind (W.ret (some t24)) fun found_ => W.ret (Ex.ok (found_, marks_))) (fun er => W.ret (Ex.er er))) W.ret fun er => W.guard (sub_NoteError er.cls = true) (W.bind (W.ite (sub_NoOrder er.cls) (W.ret (subT_ValueError er.cls)) (W.ret false)) (fun t29 => W.bind (W.ret ([t29, (sub_Held er.cls || (sub_NoCut er.cls || (sub_NoForm er.cls || (sub_NoHand er.cls || (sub_NoneYet er.cls || (sub_NoNumber er.cls || (sub_NoText er.cls || false))))))), (sub_NoNote er.cls || (sub_NoPlace er.cls || (sub_Over er.cls || (sub_RowError er.cls || (sub_TooMany er.cls || false)))))] : (List Bool))) fun marks_ => W.ret (found_, marks_)))) (fun s => m_law_right_R1 web_ order_ handed_ s.1 s.2)
def m_law_L1 (web_ : (List (P3 Int Str Int))) (kind_ : Int) (spring_ : (H3 Int Int Int)) : W (Ctl Bool ((H3 Int Int Int))) :=
  W.bind2 (m_law_free_order spring_ web_) fun t24 spring_ => W.bind2 (m_law_bent spring_ t24 kind_) fun t28 spring_ => W.bind (m_law_right web_ t28) fun t32 => W.ite (!t32) (W.ret (Ctl.rt false)) (W.ret (Ctl.nx spring_))
def m_law (script_ : (List Int)) : W (Bool) :=
  W.bind (m_law_spring script_) fun t1 => W.bind (W.ret t1) fun spring_ => W.guard (rngOk 0 ((1 : Int) + (if (4 : Int) < ((script_).length : Int) then (4 : Int) else ((script_).length : Int)))) (W.bind (compSG (rng 0 ((1 : Int) + (if (4 : Int) < ((script_).length : Int) then (4 : Int) else ((script_).length : Int)))) spring_ (fun a s => (fun again_ => (fun spring_ => W.bind2 (m_law_draw spring_ (9 : Int)) fun t7 spring_ => W.ret (some t7, spring_)) s) a)) fun q => (fun t14 spring_ => W.bind (W.ret t14) fun kinds_ => W.bind2 (m_law_web spring_ (300 : Int)) fun t19 spring_ => W.bind (W.ret t19) fun web_ => W.bind (W.forC kinds_ spring_ (fun a s => m_law_L1 web_ a s)) fun c => W.after c (fun s => (fun spring_ => W.ret true) s)) q.1 q.2)
end M

/-! # what meets -/
namespace M
open PySem L2 Z
def meetS (s t : P3 Int Str Int) : Bool := if (decide (s.a = t.a) || !decide (s.c = t.c)) = true then false else (!decide (s.b = ("load" : Str)) || !decide (t.b = ("load" : Str)))
theorem meets_wp {s t : P3 Int Str Int} {Φ : Bool → Prop} (k : Φ (meetS s t)) : (m_touches_meet s t).run Φ := by
  unfold m_touches_meet
  simp only [run_bind, run_rt, run_if]
  unfold meetS at k
  generalize decide (s.a = t.a) = p at k ⊢
  generalize decide (s.c = t.c) = q at k ⊢
  generalize decide (s.b = ("load" : Str)) = r at k ⊢
  generalize decide (t.b = ("load" : Str)) = u at k ⊢
  cases p <;> cases q <;> cases r <;> cases u <;> simpa using k
theorem law_meets_wp {s t : P3 Int Str Int} {Φ : Bool → Prop} (k : Φ (meetS s t)) : (m_law_meets s t).run Φ := meets_wp k
end M

/-! # the law's drawing: spring, draw, web -/
namespace M
open PySem L2 Z
abbrev Spr := H3 Int Int Int
def SpOk (B : Nat) (s : Spr) : Prop := 0 ≤ s.b ∧ s.b < 2305843009213693951 ∧ 0 ≤ s.c ∧ s.c ≤ B
theorem SpOk.mo {B C : Nat} {s : Spr} (h : SpOk B s) (hc : B ≤ C) : SpOk C s := ⟨h.1, h.2.1, h.2.2.1, by have := h.2.2.2; omega⟩
theorem nat_lt_pow {x : Int} {n : Nat} (h0 : 0 ≤ x) (h : x < (2 ^ n : Nat)) : x.natAbs < 2 ^ n := by omega
theorem draw_wp {B : Nat} {s : Spr} {many : Int} {Φ : Int × Spr → Prop} (hs : SpOk B s) (hB : B < 2 ^ 40) (h0 : 0 < many) (hm : many < 2 ^ 100)
    (k : ∀ x s', 0 ≤ x → x < many → SpOk (B + 1) s' → Φ (x, s')) : (m_law_draw s many).run Φ := by
  obtain ⟨f, t, n⟩ := s
  obtain ⟨ht0, ht, hn0, hn⟩ := hs
  dsimp only at ht0 ht hn0 hn
  have hmn : many.natAbs < 2 ^ 100 := by omega
  have cd : ∀ x : Int, CDivW x many := fun x => wide_div h0 hmn (by decide) (by decide)
  unfold m_law_draw
  simp only [run_bind, run_ite, run_guard, run_rt, decide_eq_true_eq, decide_eq_false_iff_not]
  refine ⟨fun hf => ⟨h0, cd _, ?_⟩, fun hf => ⟨?_, ?_, ?_, ?_, h0, ?_⟩⟩
  · exact k _ _ (Int.emod_nonneg _ (by omega)) (Int.emod_lt_of_pos _ h0) ⟨ht0, ht, hn0, by show n ≤ ((B + 1 : Nat) : Int); omega⟩
  · exact wide_mul (a := 61) (b := 61) (by omega) (by omega) (by decide) (by decide) (by decide)
  · exact wide_mul (a := 13) (b := 64) (by decide) (by omega) (by decide) (by decide) (by decide)
  · exact wide_mul (a := 77) (b := 61) (by omega) (by omega) (by decide) (by decide) (by decide)
  · exact wide_div (b := 17) (by decide) (by decide) (by decide) (by decide)
  · have p0 : (0 : Int) < 2305843009213693951 := by decide
    exact k _ _ (Int.emod_nonneg _ (by omega)) (Int.emod_lt_of_pos _ h0) ⟨Int.emod_nonneg _ (by omega), Int.emod_lt_of_pos _ p0, by show 0 ≤ n + 1; omega, by show n + 1 ≤ ((B + 1 : Nat) : Int); omega⟩
theorem ten60 : ((10 : Int) ^ ((60 : Int)).toNat) = 1000000000000000000000000000000000000000000000000000000000000 := by decide +kernel
theorem cpow60 : CPow (10 : Int) (60 : Int) := by unfold CPow; decide
theorem cpow18 : CPow (10 : Int) (18 : Int) := by unfold CPow; decide
theorem spring_wp {ns : List Int} {Φ : Spr → Prop} (hl : ns.length ≤ 63) (k : ∀ s, SpOk 0 s → Φ s) : (m_law_spring ns).run Φ := by
  unfold m_law_spring
  simp only [run_bind, run_rt]
  rw [cut_to (by decide)]
  refine forL_wp (fun i s => 0 ≤ s.1 ∧ s.1 < ((2 ^ (200 * i) : Nat) : Int) ∧ 0 ≤ s.2 ∧ s.2 < 2305843009213693951) ⟨by decide, by decide, by decide, by decide⟩ ?_ ?_
  · rintro i x ⟨f, t⟩ hx ⟨h1, h2, h3, h4⟩
    have hi : i < 63 := by
      have := (List.getElem?_eq_some_iff.mp hx).1
      rw [List.length_take] at this
      omega
    have p0 : (0 : Int) < 2305843009213693951 := by decide
    have hk : (2 : Nat) ^ (200 * (i + 1)) = 2 ^ (200 * i) * 2 ^ 200 := by rw [← Nat.pow_add]; congr 1
    have hbig : (2 : Nat) ^ (200 * i) ≤ 2 ^ 13000 := Nat.pow_le_pow_right (by decide) (by omega)
    have mono : (2 : Nat) ^ (200 * i) ≤ 2 ^ (200 * (i + 1)) := Nat.pow_le_pow_right (by decide) (by omega)
    dsimp only at h1 h2 h3 h4
    unfold m_law_spring_L1
    simp only [run_bind, run_ite, run_guard, run_rt, ten60]
    have ht : CMulW t 69069 := wide_mul (a := 61) (b := 17) (by omega) (by decide) (by decide) (by decide) (by decide)
    refine ⟨cpow18, fun _ => ⟨cpow60, ?_, cpow60, by decide, ht, ?_⟩, fun _ => ⟨ht, ?_⟩⟩
    · have hf : f.natAbs < 2 ^ 13000 := by omega
      exact wide_mul (a := 13000) (b := 200) hf (by decide +kernel) (by decide) (by decide) (by decide)
    · generalize hy : (if x < 0 then -x else x) = y
      have q0 : (0 : Int) < 1000000000000000000000000000000000000000000000000000000000000 := by decide
      have r1 := Int.emod_nonneg y (show (1000000000000000000000000000000000000000000000000000000000000 : Int) ≠ 0 by decide)
      have r2 := Int.emod_lt_of_pos y q0
      refine ⟨by omega, ?_, Int.emod_nonneg _ (by omega), Int.emod_lt_of_pos _ p0⟩
      rw [hk]
      have c : ((2 ^ 200 : Nat) : Int) = 1606938044258990275541962092341162602522202993782792835301376 := by decide +kernel
      generalize hA : (2 : Nat) ^ (200 * i) = A at h2
      rw [Int.natCast_mul, c]
      have : (f + 1) * 1606938044258990275541962092341162602522202993782792835301376 ≤ (A : Int) * 1606938044258990275541962092341162602522202993782792835301376 := Int.mul_le_mul_of_nonneg_right (by omega) (by decide)
      omega
    · exact ⟨h1, by omega, Int.emod_nonneg _ (by omega), Int.emod_lt_of_pos _ p0⟩
  · rintro ⟨f, t⟩ ⟨h1, h2, h3, h4⟩
    exact k _ ⟨h3, h4, Int.le_refl _, Int.le_refl _⟩
/-- a web that may be handed in -/
structure ToOk (t : P3 Int Str Int) : Prop where
  h0 : 0 ≤ t.a
  h8 : t.a < 8
  kd : t.b = "load" ∨ t.b = "store" ∨ t.b = "swap"
  c0 : 0 ≤ t.c
  c20 : t.c < 20
def WebOk (web : List (P3 Int Str Int)) : Prop := (∀ t ∈ web, ToOk t) ∧ web.length ≤ 300
theorem web_wp {B : Nat} {s : Spr} {most : Int} {Φ : List (P3 Int Str Int) × Spr → Prop} (hs : SpOk B s) (hB : B < 2 ^ 39) (h0 : 0 ≤ most) (hm : most ≤ 300)
    (k : ∀ web s', WebOk web → (web.length : Int) ≤ max 100 most → SpOk (B + 1000) s' → Φ (web, s')) : (m_law_web s most).run Φ := by
  unfold m_law_web
  simp only [run_bind, run_bind2, run_rt, run_guard, run_opt]
  refine draw_wp hs (by omega) (by decide) (by decide) fun shape s1 a1 a2 hs1 => ?_
  dsimp only
  obtain ⟨i, hi, hsz⟩ : ∃ i : Int, ((if decide (shape % 8 = 7) then (1 : Int) else 0) + if decide (shape = 31) then (1 : Int) else 0) = i ∧ 0 ≤ i ∧ i < 3 := by
    refine ⟨_, rfl, ?_⟩
    by_cases c1 : shape % 8 = 7 <;> by_cases c2 : shape = 31 <;> simp [c1, c2]
  rw [hi]
  obtain ⟨top, htop, etop⟩ := atI_some (xs := [(31 : Int), 101, most + 1]) hsz.1 hsz.2
  have ht : 0 < top ∧ top ≤ max 101 (most + 1) := by
    simp only [List.mem_cons, List.not_mem_nil, or_false] at htop
    omega
  refine ⟨top, etop, draw_wp hs1 (by omega) ht.1 (by omega) fun size s2 b1 b2 hs2 => ?_⟩
  refine draw_wp hs2 (by omega) (by decide) (by decide) fun hands s3 c1 c2 hs3 => ?_
  refine draw_wp hs3 (by omega) (by decide) (by decide) fun first s4 d1 d2 hs4 => ?_
  refine draw_wp hs4 (by omega) (by decide) (by decide) fun r s5 e1 e2 hs5 => ?_
  obtain ⟨room, hroom, eroom⟩ := atI_some (xs := [(1 : Int), 2, 3, 5, 20]) e1 (by simpa using e2)
  have hr : 0 < room ∧ room ≤ 20 := by
    simp only [List.mem_cons, List.not_mem_nil, or_false] at hroom
    omega
  refine ⟨room, eroom, ?_⟩
  refine draw_wp hs5 (by omega) (by decide) (by decide) fun base s6 f1 f2 hs6 => ?_
  refine draw_wp hs6 (by omega) (by decide) (by decide) fun pick s7 g1 g2 hs7 => ?_
  dsimp only at a1 a2 b1 b2 c1 c2 ⊢
  have rest : ∀ kinds : List Str, (∀ x ∈ kinds, x = "load" ∨ x = "store" ∨ x = "swap") → 0 < kinds.length → kinds.length ≤ 6 → rngOk 0 size ∧
      (W.forL (rng 0 size) (s7, ([] : List (P3 Int Str Int))) fun a s => m_law_web_L1 (1 + hands) first room base kinds a s.1 s.2).run fun a => Φ (a.2, a.1) := by
    intro kinds hk hk0 hk6
    refine ⟨⟨by decide, by decide, by omega, by omega⟩, ?_⟩
    have hlen : ((rng 0 size).length : Int) = size := by rw [rng_len]; omega
    refine forL_wp (fun i s => SpOk (B + 7 + 3 * i) s.1 ∧ (∀ t ∈ s.2, ToOk t) ∧ s.2.length = i) ⟨hs7, by simp, rfl⟩ ?_ ?_
    · rintro i x ⟨sp, web⟩ hx ⟨q1, q2, q3⟩
      have hi : i < (rng 0 size).length := (List.getElem?_eq_some_iff.mp hx).1
      have hi3 : i < 300 := by omega
      dsimp only at q1 q2 q3
      unfold m_law_web_L1
      simp only [run_bind, run_bind2, run_rt, run_guard, run_opt]
      refine draw_wp q1 (by omega) (by omega) (by omega) fun h s1 u1 u2 q1 => ?_
      refine draw_wp q1 (by omega) (by omega) (by omega) fun kd s2 v1 v2 q1 => ?_
      dsimp only at v1 v2 ⊢
      obtain ⟨kind, hkind, ekind⟩ := atI_some (xs := kinds) v1 v2
      refine ⟨kind, ekind, ?_⟩
      refine draw_wp q1 (by omega) hr.1 (by omega) fun c s3 w1 w2 q1 => ?_
      refine apd_wp (by omega) ⟨q1.mo (by omega), ?_, ?_⟩
      · intro t ht
        rcases List.mem_append.mp ht with ht | ht
        · exact q2 t ht
        · rw [List.mem_singleton.mp ht]
          exact ⟨Int.emod_nonneg _ (by decide), Int.emod_lt_of_pos _ (by decide), hk _ hkind, Int.emod_nonneg _ (by decide), Int.emod_lt_of_pos _ (by decide)⟩
      · simp [q3]
    · rintro ⟨sp, web⟩ ⟨q1, q2, q3⟩
      dsimp only at q1 q2 q3
      exact k web sp ⟨q2, by omega⟩ (by omega) (q1.mo (by omega))
  simp only [run_ite, run_rt, run_bind]
  refine ⟨fun _ => rest _ (by simp) (by simp) (by simp), fun _ => rest _ (by simp) (by simp) (by simp)⟩
theorem str_lay (s : String) (h : PyData.strOk (s : Str) = true) : Lay.ok (s : Str) := h
theorem to_lay {t : P3 Int Str Int} (h : ToOk t) : Lay.ok t := by
  refine ⟨trivial, ?_, trivial⟩
  rcases h.kd with e | e | e <;> rw [e] <;> exact str_lay _ (by decide +kernel)
end M

/-! # webs: steps by places -/
namespace M
open PySem L2 Z
abbrev Tch := P3 Int Str Int
def gW (web : List Tch) (i : Nat) : Tch := web.getD i ⟨0, "", 0⟩
def stS (s t : Tch) : Bool := decide (s.a = t.a) || meetS s t
def sW (web : List Tch) (i j : Nat) : Bool := stS (gW web i) (gW web j)
section
variable {web : List Tch} {x y i j : Nat}
theorem gW_get (h : x < web.length) : web[x]? = some (gW web x) := by
  unfold gW
  rw [List.getD_eq_getElem?_getD, List.getElem?_eq_getElem h]
  rfl
theorem gW_at (h : x < web.length) : atI web (x : Int) = some (gW web x) := atI_nat (gW_get h)
theorem rng_mem {a b x : Int} : x ∈ rng a b ↔ a ≤ x ∧ x < b := by
  unfold rng
  rw [List.mem_map]
  constructor
  · rintro ⟨k, hk, rfl⟩
    rw [List.mem_range] at hk
    omega
  · rintro ⟨h1, h2⟩
    exact ⟨(x - a).toNat, by rw [List.mem_range]; omega, by omega⟩
theorem rng_pw (a b : Int) : (rng a b).Pairwise (· < ·) := by
  unfold rng
  rw [List.pairwise_map]
  exact List.pairwise_lt_range.imp fun h => by omega
theorem isok_small {a b : Nat} (h : b ≤ 100000) : rngOk (a : Int) (b : Int) ∨ 100000 < a := by
  by_cases c : a ≤ 100000
  · exact .inl ⟨by omega, by omega, by omega, by omega⟩
  · exact .inr (by omega)
end
theorem take_snocN {α : Type} {xs : List α} {i : Nat} {x : α} (h : xs[i]? = some x) : xs.take (i + 1) = xs.take i ++ [x] := by
  rw [List.take_add_one, h]
  rfl
theorem at_head {α : Type} {x : α} {l : List α} : atI (x :: l) (0 : Int) = some x := atI_nat (j := 0) rfl
theorem at_last {α : Type} {x : α} {l : List α} : atI (l ++ [x]) (-(1 : Int)) = some x := atI_last l x
/-- a loop that is left at last -/
theorem while_wp {S ρ : Type} (Inv : S → Prop) (μ : S → Nat) {s : S} {f : S → W (Ctl ρ S)} {Φ : Ctl ρ S → Prop} (h0 : Inv s)
    (step : ∀ s, Inv s → (f s).run (CtlP (fun s' => Inv s' ∧ μ s' < μ s) (fun s' => Φ (.nx s')) (fun r => Φ (.rt r)))) : (W.whileL s f).run Φ := by
  have key : ∀ m s, Inv s → μ s < m → (W.whileN m s f).run Φ := by
    intro m
    induction m with
    | zero => intro s _ h; omega
    | succ m ih =>
      intro s hs hm
      show (W.bind (f s) _).run Φ
      rw [run_bind]
      refine run_mono (step s hs) fun c hc => ?_
      cases c with
      | nx s' => exact ih s' hc.1 (by have := hc.2; omega)
      | bk s' => exact hc
      | rt r => exact hc
  exact ⟨μ s + 1, key _ s h0 (Nat.lt_succ_self _)⟩
/-- a loop that is left where a test holds -/
theorem forC_any {α ρ : Type} {xs : List α} {f : α → Unit → W (Ctl ρ Unit)} (t : α → Bool) (r : ρ) {Φ : Ctl ρ Unit → Prop} (hf : ∀ x ∈ xs, ∀ Ψ : Ctl ρ Unit → Prop, Ψ (if t x = true then .rt r else .nx ()) → (f x ()).run Ψ)
    (k : Φ (if xs.any t = true then .rt r else .nx ())) : (W.forC xs () f).run Φ := by
  induction xs with
  | nil => exact k
  | cons x xs ih =>
    show (W.bind (f x ()) _).run Φ
    rw [run_bind]
    refine hf x List.mem_cons_self _ ?_
    rw [List.any_cons] at k
    by_cases c : t x = true
    · rw [if_pos c]
      rw [c, Bool.true_or, if_pos rfl] at k
      exact k
    · rw [if_neg c]
      rw [Bool.not_eq_true] at c
      rw [c, Bool.false_or] at k
      exact ih (fun y hy => hf y (List.mem_cons_of_mem _ hy)) k
theorem popI_wp {α : Type} {xs : List α} {i : Nat} {Φ : α × List α → Prop} (h : i < xs.length) (hl : xs.length ≤ 100000) (k : Φ (xs[i], xs.eraseIdx i)) : (popI xs (i : Int)).run Φ :=
  ⟨⟨by omega, by omega⟩, i, by rw [ixN_nat' (by omega) (by omega), Int.toNat_natCast], xs[i], List.getElem?_eq_getElem h, k⟩
theorem mnD_cases (xs : List Int) (d : Int) : (xs = [] ∧ mnD xs d = d) ∨ (mnD xs d ∈ xs ∧ ∀ y ∈ xs, mnD xs d ≤ y) := by
  cases xs with
  | nil => exact .inl ⟨rfl, rfl⟩
  | cons x xs => exact .inr (mnF xs x)
theorem mxD_cases (xs : List Int) (d : Int) : (xs = [] ∧ mxD xs d = d) ∨ (mxD xs d ∈ xs ∧ ∀ y ∈ xs, y ≤ mxD xs d) := by
  cases xs with
  | nil => exact .inl ⟨rfl, rfl⟩
  | cons x xs => exact .inr (mxF xs x)
/-- a comprehension that carries a state -/
theorem compSG_wp {α β S : Type} {xs : List α} {s : S} {f : α → S → W (Option β × S)} (Inv : Nat → S → List β → Prop) {Φ : List β × S → Prop} (hl : xs.length ≤ sizeLine) (h0 : Inv 0 s [])
    (step : ∀ i x s acc, xs[i]? = some x → Inv i s acc → (f x s).run fun r => match r.1 with | none => Inv (i + 1) r.2 acc | some y => Inv (i + 1) r.2 (acc ++ [y])) (k : ∀ s acc, Inv xs.length s acc → Φ (acc, s)) : (compSG xs s f).run Φ := by
  refine ⟨hl, ?_⟩
  have key : ∀ (ys : List α) (i : Nat) (s : S) (acc : List β), (∀ j x, ys[j]? = some x → xs[i + j]? = some x) → i + ys.length = xs.length → Inv i s acc → (compS ys acc s f).run Φ := by
    intro ys
    induction ys with
    | nil =>
      intro i s acc _ e h
      exact k s acc (by rw [← e]; exact h)
    | cons y ys ih =>
      intro i s acc hx e h
      show (W.bind (f y s) _).run Φ
      rw [run_bind]
      refine run_mono (step i y s acc (hx 0 y rfl) h) fun r hr => ?_
      obtain ⟨o, s'⟩ := r
      have hx' : ∀ j x, ys[j]? = some x → xs[i + 1 + j]? = some x := fun j x q => by rw [Nat.add_right_comm]; exact hx (j + 1) x q
      have e' : i + 1 + ys.length = xs.length := by rw [← e]; simp; omega
      cases o with
      | none => exact ih (i + 1) s' acc hx' e' hr
      | some z => exact ih (i + 1) s' (acc ++ [z]) hx' e' hr
  exact key xs 0 s [] (fun j x q => by rw [Nat.zero_add]; exact q) (by omega) h0
end M

/-! # orders that keep what must come ahead -/
namespace M
open PySem L2 Z
def Topo (web : List Tch) (os : List Nat) : Prop := ∀ l1 x l2, os = l1 ++ x :: l2 → ∀ i, i < x → sW web i x = true → i ∈ l1
theorem lawstep_wp {s t : Tch} {Φ : Bool → Prop} (k : Φ (stS s t)) : (m_law_step s t).run Φ := by
  unfold m_law_step
  simp only [run_bind, run_if, run_rt]
  unfold stS at k
  by_cases c : s.a = t.a
  · rw [decide_eq_true c] at k ⊢
    exact k
  · rw [decide_eq_false c] at k ⊢
    exact law_meets_wp k
section
variable {web : List Tch} {os fs : List Nat} {i j n : Nat}
/-- how many a place still waits for -/
def wc (web : List Tch) (os : List Nat) (j : Nat) : Nat := ((List.range j).filter fun i => sW web i j && !decide (i ∈ os)).length
theorem wc_zero (h : wc web os j = 0) : ∀ i, i < j → sW web i j = true → i ∈ os := by
  intro i hi hs
  unfold wc at h
  rw [List.length_eq_zero_iff, List.filter_eq_nil_iff] at h
  have := h i (List.mem_range.mpr hi)
  rw [hs] at this
  simpa using this
theorem wc_of (h : ∀ i, i < j → sW web i j = true → i ∈ os) : wc web os j = 0 := by
  unfold wc
  rw [List.length_eq_zero_iff, List.filter_eq_nil_iff]
  intro i hi
  rw [List.mem_range] at hi
  cases hs : sW web i j with
  | false => simp
  | true => simp [h i hi hs]
theorem filter_one {α : Type} [DecidableEq α] {l : List α} {p : α → Bool} {a : α} (hn : l.Nodup) (ha : a ∈ l) (hp : p a = true) : (l.filter fun x => p x && !decide (x = a)).length + 1 = (l.filter p).length := by
  induction l with
  | nil => cases ha
  | cons b l ih =>
    obtain ⟨h1, h2⟩ := List.nodup_cons.mp hn
    by_cases c : b = a
    · subst c
      rw [List.filter_cons_of_neg (by simp), List.filter_cons_of_pos hp, List.length_cons]
      congr 2
      refine List.filter_congr fun x hx => ?_
      have : x ≠ b := fun e => h1 (e ▸ hx)
      simp [this]
    · have ha' : a ∈ l := by
        rcases List.mem_cons.mp ha with e | e
        · exact absurd e.symm c
        · exact e
      have := ih h2 ha'
      rw [List.filter_cons, List.filter_cons]
      cases q : p b with
      | true => simp [c]; omega
      | false => simp; omega
theorem wc_snoc (hi : i ∉ os) : wc web (os ++ [i]) j = if i < j ∧ sW web i j = true then wc web os j - 1 else wc web os j := by
  have e : wc web (os ++ [i]) j = ((List.range j).filter fun x => (sW web x j && !decide (x ∈ os)) && !decide (x = i)).length := by
    unfold wc
    congr 1
    refine List.filter_congr fun x _ => ?_
    rw [Bool.and_assoc]
    congr 1
    by_cases a : x ∈ os <;> by_cases b : x = i <;> simp [a, b]
  rw [e]
  split
  · rename_i h
    have := filter_one (p := fun x => sW web x j && !decide (x ∈ os)) List.nodup_range (List.mem_range.mpr h.1) (by simp [h.2, hi])
    unfold wc
    omega
  · rename_i h
    unfold wc
    congr 1
    refine List.filter_congr fun x hx => ?_
    rw [List.mem_range] at hx
    by_cases b : x = i
    · subst b
      have : sW web x j = false := by
        cases q : sW web x j with
        | false => rfl
        | true => exact absurd ⟨hx, q⟩ h
      simp [this]
    · simp [b]
theorem wc_pos (hi : i ∉ os) (hij : i < j) (hs : sW web i j = true) : 0 < wc web os j := by
  refine Nat.pos_of_ne_zero fun h => hi (wc_zero h i hij hs)
def casts (l : List Nat) : List Int := l.map fun x : Nat => (x : Int)
theorem all_len : ∀ n (os : List Nat), (∀ j, j < n → j ∈ os) → n ≤ os.length
  | 0, _, _ => Nat.zero_le _
  | n + 1, os, h => by
    have := all_len n (os.erase n) fun j hj => (List.mem_erase_of_ne (by omega)).mpr (h j (by omega))
    rw [List.length_erase_of_mem (h n (by omega))] at this
    have := List.length_pos_of_mem (h n (by omega))
    omega
theorem nodup_len : ∀ n (l : List Nat), l.Nodup → (∀ x ∈ l, x < n) → l.length ≤ n := by
  intro n
  induction n with
  | zero => intro l _ h; cases l with | nil => exact Nat.le_refl _ | cons a l => exact absurd (h a List.mem_cons_self) (by omega)
  | succ n ih =>
    intro l hn h
    have := ih (l.erase n) (hn.erase n) fun x hx => by
      have h1 := h x (List.mem_of_mem_erase hx)
      have h2 : x ≠ n := fun e => by subst e; exact (List.Nodup.not_mem_erase hn) hx
      omega
    by_cases c : n ∈ l
    · rw [List.length_erase_of_mem c] at this; omega
    · rw [List.erase_of_not_mem c] at this; omega
theorem erase_at : ∀ {l : List Nat}, l.Nodup → ∀ {p : Nat} (hp : p < l.length), l.erase l[p] = l.eraseIdx p
  | [], _, _, hp => by simp at hp
  | a :: l, hn, 0, _ => by simp
  | a :: l, hn, p + 1, hp => by
    obtain ⟨h1, h2⟩ := List.nodup_cons.mp hn
    have hp' : p < l.length := by simpa using hp
    have : a ≠ l[p] := fun e => h1 (e ▸ List.getElem_mem hp')
    rw [List.getElem_cons_succ, List.erase_cons_tail (by simpa using this), List.eraseIdx_cons_succ, erase_at h2 hp']
theorem map_eraseIdx {α β : Type} (f : α → β) : ∀ (l : List α) (p : Nat), (l.map f).eraseIdx p = (l.eraseIdx p).map f
  | [], _ => rfl
  | _ :: _, 0 => rfl
  | a :: l, p + 1 => by simp [map_eraseIdx f l p]
theorem casts_len (l : List Nat) : (casts l).length = l.length := by unfold casts; simp
def mapR (n : Nat) (f : Nat → Int) : List Int := (List.range n).map f
theorem mapR_len {f : Nat → Int} : (mapR n f).length = n := by unfold mapR; simp
theorem mapR_at {f : Nat → Int} (h : j < n) : atI (mapR n f) (j : Int) = some (f j) := by
  refine atI_nat ?_
  unfold mapR
  rw [List.getElem?_map, List.getElem?_range h]
  rfl
theorem mapR_set {f : Nat → Int} {v : Int} (h : i < n) : (mapR n f).set i v = mapR n fun j => if j = i then v else f j := by
  unfold mapR
  apply List.ext_getElem?
  intro m
  rw [List.getElem?_set]
  simp only [List.getElem?_map, List.length_map, List.length_range]
  by_cases c : i = m
  · subst c
    rw [if_pos rfl, if_pos h, List.getElem?_range h]
    simp
  · rw [if_neg c]
    by_cases d : m < n
    · rw [List.getElem?_range d]
      simp only [Option.map_some, Option.some.injEq]
      rw [if_neg (fun e => c e.symm)]
    · rw [List.getElem?_eq_none (by simp; omega)]
      rfl
theorem mapR_congr {f g : Nat → Int} (h : ∀ j, j < n → f j = g j) : mapR n f = mapR n g := by
  unfold mapR
  exact List.map_congr_left fun j hj => h j (List.mem_range.mp hj)
theorem rng_mapR : rng 0 (n : Int) = mapR n fun j => (j : Int) := by
  unfold rng mapR
  rw [Int.sub_zero, Int.toNat_natCast]
  refine List.map_congr_left fun j _ => by omega
theorem rng_casts : rng 0 (n : Int) = casts (List.range n) := rng_mapR
/-- the state between two turns -/
structure Fr (web : List Tch) (os fs : List Nat) : Prop where
  nd : os.Nodup
  lt : ∀ x ∈ os, x < web.length
  topo : Topo web os
  fnd : fs.Nodup
  free : ∀ j, j ∈ fs ↔ j < web.length ∧ j ∉ os ∧ wc web os j = 0
theorem Fr.some (h : Fr web os fs) (hl : os.length < web.length) : 0 < fs.length := by
  -- the first place that is not in the order
  have ex : ∃ j, j < web.length ∧ j ∉ os := by
    refine Classical.byContradiction fun q => ?_
    have := all_len web.length os fun x hx => Classical.byContradiction fun z => q ⟨x, hx, z⟩
    omega
  have least : ∀ m j, j ≤ m → j < web.length → j ∉ os → ∃ j, j < web.length ∧ j ∉ os ∧ ∀ i, i < j → i ∈ os := by
    intro m
    induction m with
    | zero =>
      intro j a b c
      exact ⟨j, b, c, fun i hi => by omega⟩
    | succ m ih =>
      intro j a b c
      by_cases z : ∃ i, i < j ∧ i ∉ os
      · obtain ⟨i, z1, z2⟩ := z
        exact ih i (by omega) (by omega) z2
      · exact ⟨j, b, c, fun i hi => Classical.byContradiction fun w => z ⟨i, hi, w⟩⟩
  obtain ⟨j, a, b⟩ := ex
  obtain ⟨j, a, b, c⟩ := least j j (Nat.le_refl _) a b
  exact List.length_pos_of_mem ((h.free j).mpr ⟨a, b, wc_of fun i hi _ => c i hi⟩)
theorem topo_snoc (h : Topo web os) (hi : ∀ x, x < i → sW web x i = true → x ∈ os) : Topo web (os ++ [i]) := by
  intro l1 x l2 e y hy hs
  rcases List.eq_nil_or_concat l2 with rfl | ⟨r, z, rfl⟩
  · have : os ++ [i] = l1 ++ [x] := e
    obtain ⟨e1, e2⟩ := List.append_inj' this rfl
    cases e2
    subst e1
    exact hi y hy hs
  · rw [List.concat_eq_append] at e
    have : os ++ [i] = (l1 ++ x :: r) ++ [z] := by rw [e]; simp
    obtain ⟨e1, e2⟩ := List.append_inj' this rfl
    exact h l1 x r e1 y hy hs
theorem free_wp {B : Nat} {s : Spr} {Φ : List Int × Spr → Prop} (hs : SpOk B s) (hB : B < 2 ^ 39) (hl : web.length ≤ 300)
    (k : ∀ os s', os.length = web.length → (∀ x ∈ os, x < web.length) → os.Nodup → Topo web os → SpOk (B + 300) s' → Φ (casts os, s')) : (m_law_free_order s web).run Φ := by
  unfold m_law_free_order
  simp only [run_guard, run_bind, run_rt]
  have rg : rngOk 0 (web.length : Int) := ⟨by decide, by decide, by omega, by omega⟩
  have rm : ∀ x ∈ rng 0 (web.length : Int), ∃ j : Nat, x = j ∧ j < web.length := fun x hx => by
    obtain ⟨h1, h2⟩ := rng_mem.mp hx
    exact ⟨x.toNat, by omega, by omega⟩
  refine ⟨rg, compG_wp (fun _ => true) (fun x => (wc web [] x.toNat : Int)) (small (by rw [rng_len]; omega)) (fun _ _ Ψ h => h) (fun x hx _ Ψ h => ?_) ?_⟩
  · obtain ⟨j, rfl, hj⟩ := rm x hx
    refine ⟨⟨by decide, by decide, by omega, by omega⟩, ?_⟩
    refine compG_wp (fun i => sW web i.toNat j) (fun i => i) (small (by rw [rng_len]; omega)) (fun y hy Ψ h => ?_) (fun _ _ _ Ψ h => h) ?_
    · obtain ⟨h1, h2⟩ := rng_mem.mp hy
      obtain ⟨i, rfl⟩ : ∃ i : Nat, y = i := ⟨y.toNat, by omega⟩
      simp only [run_bind, run_opt, gW_at (show i < web.length by omega), gW_at hj, Option.some.injEq, exists_eq_left']
      exact lawstep_wp h
    · rw [List.map_id']
      have e : ((rng 0 (j : Int)).filter fun i => sW web i.toNat j).length = wc web [] j := by
        unfold wc rng
        rw [List.filter_map, List.length_map, Int.sub_zero, Int.toNat_natCast]
        congr 1
        refine List.filter_congr fun x _ => ?_
        simp
      show Ψ (((rng 0 (j : Int)).filter fun i => sW web i.toNat j).length : Int)
      rw [e]
      simpa using h
  · have e1 : ((rng 0 (web.length : Int)).filter fun _ => true).map (fun x => (wc web [] x.toNat : Int)) = mapR web.length fun j => (wc web [] j : Int) := by
      rw [List.filter_eq_self.mpr fun _ _ => rfl, rng_mapR]
      unfold mapR
      rw [List.map_map]
      rfl
    rw [e1]
    refine ⟨rg, compG_wp (fun x => decide ((wc web [] x.toNat : Int) = 0)) (fun x => x) (small (by rw [rng_len]; omega)) (fun x hx Ψ h => ?_) (fun _ _ _ Ψ h => h) ?_⟩
    · obtain ⟨j, rfl, hj⟩ := rm x hx
      simp only [run_bind, run_opt, run_rt, mapR_at hj, Option.some.injEq, exists_eq_left']
      exact h
    · rw [List.map_id']
      have e2 : ((rng 0 (web.length : Int)).filter fun x => decide ((wc web [] x.toNat : Int) = 0)) = casts ((List.range web.length).filter fun j => decide (wc web [] j = 0)) := by
        rw [rng_casts]
        unfold casts
        rw [List.filter_map]
        congr 1
        refine List.filter_congr fun x _ => ?_
        simp
      rw [e2]
      refine ⟨rg, ?_⟩
      refine forL_wp (fun t q => SpOk (B + t) q.1 ∧ ∃ os fs : List Nat, Fr web os fs ∧ os.length = t ∧ q.2.1 = mapR web.length (fun j => (wc web os j : Int)) ∧ q.2.2.1 = casts fs ∧ q.2.2.2 = casts os) ⟨hs, [], _, ?_, rfl, rfl, rfl, rfl⟩ ?_ ?_
      · refine ⟨List.nodup_nil, by simp, fun l1 x l2 e => by simp at e, List.nodup_range.filter _, fun j => ?_⟩
        rw [List.mem_filter, List.mem_range, decide_eq_true_eq]
        simp
      · rintro t x ⟨sp, wt, fr, od⟩ hx ⟨q1, os, fs, hF, q2, q3, q4, q5⟩
        dsimp only at q1 q3 q4 q5
        subst q3 q4 q5
        have ht : t < web.length := by
          have := (List.getElem?_eq_some_iff.mp hx).1
          rw [rng_len] at this
          omega
        have hpos := hF.some (by omega)
        have hfl : fs.length ≤ web.length := nodup_len _ fs hF.fnd fun x hx => ((hF.free x).mp hx).1
        unfold m_law_free_order_L2
        simp only [run_bind, run_bind2, run_guard, run_rt, casts_len]
        refine draw_wp q1 (by omega) (by omega) (by omega) fun p s1 a1 a2 hs1 => ?_
        obtain ⟨p, rfl⟩ : ∃ m : Nat, p = m := ⟨p.toNat, by omega⟩
        dsimp only
        refine popI_wp (by rw [casts_len]; omega) (by rw [casts_len]; omega) ?_
        have hp : p < fs.length := by omega
        generalize hi : fs[p] = i
        have e3 : (casts fs)[p]'(by rw [casts_len]; exact hp) = (i : Int) := by
          unfold casts
          rw [List.getElem_map, hi]
        have e4 : (casts fs).eraseIdx p = casts (fs.erase i) := by
          unfold casts
          rw [← hi, erase_at hF.fnd hp, map_eraseIdx]
        rw [e3, e4]
        have him : i ∈ fs := hi ▸ List.getElem_mem hp
        obtain ⟨i1, i2, i3⟩ := (hF.free i).mp him
        refine apd_wp (by rw [casts_len]; omega) ⟨⟨by omega, by omega, by omega, by omega⟩, ?_⟩
        have e5 : casts os ++ [(i : Int)] = casts (os ++ [i]) := by unfold casts; simp
        rw [e5]
        dsimp only
        have hrl : (rng ((i : Int) + 1) (web.length : Int)).length = web.length - (i + 1) := by rw [rng_len]; omega
        have hFn : (fs.erase i).Nodup := hF.fnd.erase i
        refine forL_wp (fun m q => ∃ gs : List Nat, gs.Nodup ∧ q.1 = mapR web.length (fun j => if j < i + 1 + m then (wc web (os ++ [i]) j : Int) else (wc web os j : Int)) ∧ q.2 = casts gs ∧
          ∀ j, j ∈ gs ↔ j < web.length ∧ j ∉ os ++ [i] ∧ (if j < i + 1 + m then wc web (os ++ [i]) j = 0 else wc web os j = 0)) ⟨_, hFn, ?_, rfl, fun j => ?_⟩ ?_ ?_
        · refine mapR_congr fun j _ => ?_
          split
          · rw [wc_snoc i2, if_neg (by omega)]
          · rfl
        · rw [List.Nodup.mem_erase_iff hF.fnd, hF.free]
          have : (if j < i + 1 + 0 then wc web (os ++ [i]) j = 0 else wc web os j = 0) ↔ wc web os j = 0 := by
            split
            · rw [wc_snoc i2, if_neg (by omega)]
            · exact Iff.rfl
          rw [this, List.mem_append, List.mem_singleton]
          constructor
          · rintro ⟨h1, h2, h3, h4⟩; exact ⟨h2, fun z => z.elim h3 h1, h4⟩
          · rintro ⟨h1, h2, h3⟩; exact ⟨fun z => h2 (.inr z), h1, fun z => h2 (.inl z), h3⟩
        · rintro m y ⟨wt, fr⟩ hy ⟨gs, g1, g2, g3, g4⟩
          dsimp only at g2 g3
          subst g2 g3
          obtain ⟨hm, rfl⟩ := rng_get hy
          have hm' : m < web.length - (i + 1) := by omega
          obtain ⟨j, hj⟩ : ∃ j : Nat, (i : Int) + 1 + (m : Int) = (j : Int) := ⟨i + 1 + m, by omega⟩
          rw [hj]
          have hjl : j < web.length := by omega
          have hjm : j = i + 1 + m := by omega
          unfold m_law_free_order_L1
          simp only [run_bind, run_opt, run_rt, gW_at i1, gW_at hjl, Option.some.injEq, exists_eq_left']
          refine lawstep_wp ?_
          have hgl : gs.length ≤ 100000 := by
            have := nodup_len _ gs g1 fun x hx => ((g4 x).mp hx).1
            omega
          have hs2 := wc_snoc (web := web) (j := j) i2
          have hsW : stS (gW web i) (gW web j) = sW web i j := rfl
          rw [hsW]
          by_cases c : sW web i j = true
          · rw [if_pos ⟨by omega, c⟩] at hs2
            have hp0 := wc_pos i2 (show i < j by omega) c
            simp only [run_if, run_bind, run_opt, run_rt]
            rw [if_pos c]
            refine ⟨_, mapR_at hjl, ?_⟩
            rw [if_neg (by omega)]
            refine sti_wp (by omega) (by rw [mapR_len]; omega) ?_
            rw [Int.toNat_natCast, mapR_set hjl]
            refine ⟨_, mapR_at hjl, ?_⟩
            rw [if_pos rfl]
            have hnew : (mapR web.length fun q => if q = j then (wc web os j : Int) - 1 else if q < i + 1 + m then (wc web (os ++ [i]) q : Int) else (wc web os q : Int)) =
                mapR web.length fun q => if q < i + 1 + (m + 1) then (wc web (os ++ [i]) q : Int) else (wc web os q : Int) := by
              refine mapR_congr fun q _ => ?_
              by_cases d : q = j
              · subst d
                rw [if_pos rfl, if_pos (by omega), hs2]
                omega
              · rw [if_neg d]
                by_cases e : q < i + 1 + m
                · rw [if_pos e, if_pos (by omega)]
                · rw [if_neg e, if_neg (by omega)]
            rw [hnew]
            have hjos : j ∉ os := fun z => by
              -- what stands in the order waits for none
              obtain ⟨l1, l2, e⟩ := List.append_of_mem z
              have := hF.topo l1 j l2 e i (by omega) c
              exact i2 (by rw [e]; exact List.mem_append_left _ this)
            by_cases d : (wc web os j : Int) - 1 = 0
            · rw [if_pos (decide_eq_true d)]
              have e6 : casts gs ++ [(j : Int)] = casts (gs ++ [j]) := by unfold casts; simp
              have hjg : j ∉ gs := fun z => by
                have := ((g4 j).mp z).2.2
                rw [if_neg (by omega)] at this
                omega
              refine apd_wp (by rw [casts_len]; omega) ⟨gs ++ [j], ?_, rfl, e6, fun q => ?_⟩
              · exact List.nodup_append.mpr ⟨g1, by simp, fun a ha b hb => by rw [List.mem_singleton] at hb; subst hb; exact fun e => hjg (e ▸ ha)⟩
              · rw [List.mem_append, List.mem_singleton, g4]
                by_cases e : q = j
                · subst e
                  rw [if_pos (show q < i + 1 + (m + 1) by omega), hs2]
                  constructor
                  · intro _
                    refine ⟨hjl, ?_, by omega⟩
                    rw [List.mem_append, List.mem_singleton]
                    rintro (z | z)
                    · exact hjos z
                    · omega
                  · intro _; exact .inr rfl
                · have : (if q < i + 1 + (m + 1) then wc web (os ++ [i]) q = 0 else wc web os q = 0) ↔ (if q < i + 1 + m then wc web (os ++ [i]) q = 0 else wc web os q = 0) := by
                    by_cases e' : q < i + 1 + m
                    · rw [if_pos e', if_pos (by omega)]
                    · rw [if_neg e', if_neg (by omega)]
                  rw [this]
                  simp [e]
            · rw [if_neg (by simpa using d)]
              refine ⟨gs, g1, rfl, rfl, fun q => ?_⟩
              rw [g4]
              by_cases e : q = j
              · subst e
                rw [if_neg (show ¬ q < i + 1 + m by omega), if_pos (show q < i + 1 + (m + 1) by omega), hs2]
                constructor
                · rintro ⟨_, _, z⟩; omega
                · rintro ⟨_, _, z⟩; omega
              · have : (if q < i + 1 + (m + 1) then wc web (os ++ [i]) q = 0 else wc web os q = 0) ↔ (if q < i + 1 + m then wc web (os ++ [i]) q = 0 else wc web os q = 0) := by
                  by_cases e' : q < i + 1 + m
                  · rw [if_pos e', if_pos (by omega)]
                  · rw [if_neg e', if_neg (by omega)]
                rw [this]
          · rw [if_neg (fun z => c z.2)] at hs2
            simp only [run_if, run_rt]
            rw [if_neg c]
            have same : ∀ q, (if q < i + 1 + (m + 1) then wc web (os ++ [i]) q else wc web os q) = (if q < i + 1 + m then wc web (os ++ [i]) q else wc web os q) := by
              intro q
              by_cases e' : q < i + 1 + m
              · rw [if_pos e', if_pos (by omega)]
              · rw [if_neg e']
                by_cases e : q = j
                · subst e
                  rw [if_pos (by omega), hs2]
                · rw [if_neg (by omega)]
            refine ⟨gs, g1, mapR_congr fun q _ => ?_, rfl, fun q => ?_⟩
            · have := same q
              by_cases a : q < i + 1 + (m + 1) <;> by_cases b : q < i + 1 + m <;> simp only [a, b, if_true, if_false] at this ⊢ <;> rw [this]
            · rw [g4]
              have := same q
              by_cases a : q < i + 1 + (m + 1) <;> by_cases b : q < i + 1 + m <;> simp only [a, b, if_true, if_false] at this ⊢ <;> rw [this]
        · rintro ⟨wt, fr⟩ ⟨gs, g1, g2, g3, g4⟩
          dsimp only at g2 g3
          subst g2 g3
          rw [hrl] at g4 ⊢
          refine ⟨hs1.mo (by omega), os ++ [i], gs, ⟨?_, ?_, ?_, g1, fun j => ?_⟩, by rw [List.length_append, q2]; rfl, mapR_congr fun j hj => ?_, rfl, rfl⟩
          · exact List.nodup_append.mpr ⟨hF.nd, by simp, fun a ha b hb => by rw [List.mem_singleton] at hb; subst hb; exact fun e => i2 (e ▸ ha)⟩
          · intro x hx
            rcases List.mem_append.mp hx with z | z
            · exact hF.lt x z
            · rw [List.mem_singleton.mp z]; exact i1
          · exact topo_snoc hF.topo (wc_zero i3)
          · rw [g4]
            constructor
            · rintro ⟨h1, h2, h3⟩
              rw [if_pos (by omega)] at h3
              exact ⟨h1, h2, h3⟩
            · rintro ⟨h1, h2, h3⟩
              refine ⟨h1, h2, ?_⟩
              rw [if_pos (by omega)]
              exact h3
          · rw [if_pos (by omega)]
      · rintro ⟨sp, wt, fr, od⟩ ⟨q1, os, fs, hF, q2, q3, q4, q5⟩
        dsimp only at q1 q5
        subst q5
        rw [rng_len] at q1 q2
        exact k os sp (by omega) hF.lt hF.nd hF.topo (q1.mo (by omega))
end
end M

/-! # k21: orders of a web -/
namespace M
open PySem L2 Z
theorem isstep_wp {web : List Tch} {i j : Nat} {Φ : Bool → Prop} (hi : i < web.length) (hj : j < web.length) (k : Φ (sW web i j)) : (m_is_step web (i : Int) (j : Int)).run Φ := by
  unfold m_is_step
  simp only [run_bind, run_opt, gW_at hi, gW_at hj, Option.some.injEq, exists_eq_left', run_if, run_rt]
  unfold sW stS at k
  by_cases c : (gW web i).a = (gW web j).a
  · rw [decide_eq_true c] at k ⊢
    exact k
  · rw [decide_eq_false c] at k ⊢
    exact meets_wp k
/-- where each place stands -/
def stdL (n : Nat) (os : List Int) : Nat → List Int
  | 0 => List.replicate n 0
  | t + 1 => (stdL n os t).set (os.getD t 0).toNat t
theorem stdL_len {n : Nat} {os : List Int} : ∀ t, (stdL n os t).length = n
  | 0 => by simp [stdL]
  | t + 1 => by simp [stdL, stdL_len t]
def stAt (n : Nat) (os : List Int) (j : Nat) : Int := (stdL n os os.length).getD j 0
section
variable {web : List Tch} {os : List Int}
theorem st_at {j n : Nat} (h : j < n) : atI (stdL n os os.length) (j : Int) = some (stAt n os j) := by
  refine atI_nat ?_
  unfold stAt
  rw [List.getD_eq_getElem?_getD, List.getElem?_eq_getElem (by rw [stdL_len]; exact h)]
  rfl
theorem rep_wp {n : Nat} (h : n ≤ 300) : repG ([(0 : Int)] : List Int) (n : Int) ∧ repL ([(0 : Int)] : List Int) (n : Int) = List.replicate n 0 := by
  refine ⟨⟨by omega, by omega, by show 1 * _ ≤ _; exact small (by omega)⟩, ?_⟩
  unfold repL
  rw [Int.toNat_natCast, List.flatten_replicate_singleton]
theorem stand_wp {n : Nat} {Φ : List Int → Prop} {f : Int → List Int → W (List Int)} (hf : f = fun at_ st => W.bind (W.opt (atI os at_)) fun t => W.bind (sti st t at_) fun s => W.ret s) (hm : ∀ x ∈ os, 0 ≤ x ∧ x < n) (k : Φ (stdL n os os.length)) : (W.forL (rng 0 (os.length : Int)) (List.replicate n 0) f).run Φ := by
  subst hf
  refine forL_wp (fun t s => s = stdL n os t) rfl ?_ ?_
  · rintro t x s hx rfl
    obtain ⟨ht, rfl⟩ := rng_get hx
    have ht' : t < os.length := by omega
    rw [Int.zero_add]
    simp only [run_bind, run_opt, run_rt]
    have e : os[t]? = some (os.getD t 0) := by
      rw [List.getD_eq_getElem?_getD, List.getElem?_eq_getElem ht']; rfl
    refine ⟨_, atI_nat e, ?_⟩
    obtain ⟨h1, h2⟩ := hm _ (List.mem_of_getElem? e)
    exact sti_wp h1 (by rw [stdL_len]; exact h2) rfl
  · rintro s rfl
    rw [rng_len, Int.sub_zero, Int.toNat_natCast]
    exact k
theorem rgok {n : Nat} (h : n ≤ 300) : RgOk 0 (n : Int) := RgOk.of_le (by decide) (by omega) (by decide) (by omega)
theorem mem_of_srt {n : Nat} (c : srtI os = rng 0 (n : Int)) : ∀ x ∈ os, 0 ≤ x ∧ x < n := fun x hx => by
  have := (srtI_perm os).mem_iff.mpr hx
  rw [c] at this
  exact rng_mem.mp this
/-- two places that a step joins stand the wrong way -/
def bad (web : List Tch) (os : List Int) (i j : Nat) : Bool := decide (stAt web.length os i > stAt web.length os j) && sW web i j
def anyBad (web : List Tch) (os : List Int) : Bool := (rng 0 (web.length : Int)).any fun j => (rng 0 j).any fun i => bad web os i.toNat j.toNat
theorem stands_wp {Φ : Ex (List Int) → Prop} (hl : web.length ≤ 300) (ho : os.length ≤ 400) (k : srtI os = rng 0 (web.length : Int) → Φ (.ok (stdL web.length os os.length))) (k' : srtI os ≠ rng 0 (web.length : Int) → Φ (.er ⟨0, .none⟩)) : (m_stands_of web os).run Φ := by
  unfold m_stands_of
  simp only [run_guard, run_if, run_rt, run_bind]
  refine ⟨rgok (by omega), ⟨okD_pl _, okD_pl _⟩, ?_⟩
  rw [eqD_dec]
  by_cases c : srtI os = rng 0 (web.length : Int)
  · rw [decide_eq_true c]
    simp only [Bool.not_true, Bool.false_eq_true, if_false]
    obtain ⟨r1, r2⟩ := rep_wp hl
    rw [r2]
    refine ⟨r1, ⟨by omega, by omega, by omega, by omega⟩, stand_wp rfl (mem_of_srt c) (k c)⟩
  · rw [decide_eq_false c]
    simp only [Bool.not_false, if_true]
    exact k' c
theorem same_wp {Φ : Ex Bool → Prop} (hl : web.length ≤ 300) (ho : os.length ≤ 400) (k : srtI os = rng 0 (web.length : Int) → Φ (.ok (!anyBad web os))) (k' : srtI os ≠ rng 0 (web.length : Int) → Φ (.er ⟨0, .none⟩)) : (m_same_run web os).run Φ := by
  unfold m_same_run
  refine exm_run (stands_wp hl ho (fun c => ?_) fun c => ?_)
  · simp only [ExP, run_guard, run_rt, run_bind]
    refine ⟨⟨by omega, by omega, by omega, by omega⟩, ?_⟩
    refine forC_any (fun j => (rng 0 j).any fun i => bad web os i.toNat j.toNat) (Ex.ok false) (fun x hx Ψ h => ?_) ?_
    · obtain ⟨h1, h2⟩ := rng_mem.mp hx
      obtain ⟨j, rfl⟩ : ∃ j : Nat, x = j := ⟨x.toNat, by omega⟩
      unfold m_same_run_L2
      simp only [run_guard, run_bind]
      refine ⟨⟨by omega, by omega, by omega, by omega⟩, ?_⟩
      refine forC_any (fun i => bad web os i.toNat j) (Ctl.rt (Ex.ok false)) (fun y hy Ψ' h' => ?_) ?_
      · obtain ⟨q1, q2⟩ := rng_mem.mp hy
        obtain ⟨i, rfl⟩ : ∃ i : Nat, y = i := ⟨y.toNat, by omega⟩
        unfold m_same_run_L1
        simp only [run_bind, run_opt, st_at (show i < web.length by omega), st_at (show j < web.length by omega), Option.some.injEq, exists_eq_left', run_if, run_rt]
        have h2 : Ψ' (if bad web os i j = true then Ctl.rt (Ctl.rt (Ex.ok false)) else Ctl.nx ()) := h'
        have fin : ∀ b : Bool, b = bad web os i j → (if b = true then Ψ' (Ctl.rt (Ctl.rt (Ex.ok false))) else Ψ' (Ctl.nx ())) := by
          rintro b rfl
          by_cases z : bad web os i j = true
          · rw [if_pos z] at h2 ⊢; exact h2
          · rw [if_neg z] at h2 ⊢; exact h2
        by_cases d : stAt web.length os i > stAt web.length os j
        · rw [if_pos (decide_eq_true d)]
          exact isstep_wp (by omega) (by omega) (fin _ (by unfold bad; rw [decide_eq_true d, Bool.true_and]))
        · rw [if_neg (by rw [decide_eq_false d]; decide)]
          exact fin false (by unfold bad; rw [decide_eq_false d, Bool.false_and])
      · simp only [Int.toNat_natCast] at h
        by_cases d : ((rng 0 (j : Int)).any fun i => bad web os i.toNat j) = true
        · rw [if_pos d] at h ⊢
          exact h
        · rw [if_neg d] at h ⊢
          exact h
    · by_cases d : anyBad web os = true
      · have k := k c
        unfold anyBad at d k
        rw [if_pos d]
        rw [d] at k
        exact k
      · have k := k c
        rw [Bool.not_eq_true] at d
        unfold anyBad at d k
        rw [if_neg (by rw [d]; decide)]
        rw [d] at k
        exact k
  · exact k' c
theorem keeps_wp {Φ : Bool → Prop} (hl : web.length ≤ 300) (ho : os.length ≤ 400) (c : srtI os = rng 0 (web.length : Int)) (k : Φ (!anyBad web os)) : (m_law_keeps web os).run Φ := by
  unfold m_law_keeps
  simp only [run_guard, run_if, run_rt, run_bind]
  obtain ⟨r1, r2⟩ := rep_wp hl
  rw [r2]
  refine ⟨r1, ⟨by omega, by omega, by omega, by omega⟩, stand_wp rfl (mem_of_srt c) ?_⟩
  refine ⟨⟨by omega, by omega, by omega, by omega⟩, ?_⟩
  refine forC_any (fun j => (rng 0 j).any fun i => bad web os i.toNat j.toNat) false (fun x hx Ψ h => ?_) ?_
  · obtain ⟨h1, h2⟩ := rng_mem.mp hx
    obtain ⟨j, rfl⟩ : ∃ j : Nat, x = j := ⟨x.toNat, by omega⟩
    unfold m_law_keeps_L2
    simp only [run_guard, run_bind, run_if, run_rt]
    refine ⟨⟨by omega, by omega, by omega, by omega⟩, ?_⟩
    refine compG_wp (fun i => bad web os i.toNat j) (fun i => i) (small (by rw [rng_len]; omega)) (fun y hy Ψ' h' => ?_) (fun _ _ _ Ψ' h' => h') ?_
    · obtain ⟨q1, q2⟩ := rng_mem.mp hy
      obtain ⟨i, rfl⟩ : ∃ i : Nat, y = i := ⟨y.toNat, by omega⟩
      simp only [run_bind, run_opt, st_at (show i < web.length by omega), st_at (show j < web.length by omega), Option.some.injEq, exists_eq_left', run_if, run_rt]
      have h2 : Ψ' (bad web os i j) := h'
      by_cases d : stAt web.length os i > stAt web.length os j
      · rw [if_pos (decide_eq_true d)]
        have e : bad web os i j = stS (gW web i) (gW web j) := by unfold bad; rw [decide_eq_true d, Bool.true_and]; rfl
        rw [e] at h2
        simp only [gW_at (show i < web.length by omega), gW_at (show j < web.length by omega), Option.some.injEq, exists_eq_left']
        exact lawstep_wp h2
      · rw [if_neg (by rw [decide_eq_false d]; decide)]
        have e : bad web os i j = false := by unfold bad; rw [decide_eq_false d, Bool.false_and]
        rw [e] at h2
        exact h2
    · rw [List.map_id']
      refine ⟨⟨okD_pl _, okD_pl _⟩, ?_⟩
      rw [eqD_dec]
      simp only [Int.toNat_natCast] at h
      by_cases d : ((rng 0 (j : Int)).any fun i => bad web os i.toNat j) = true
      · rw [if_pos d] at h
        rw [decide_eq_false ?_]
        · exact h
        · intro z
          rw [List.filter_eq_nil_iff] at z
          obtain ⟨i, w1, w2⟩ := List.any_eq_true.mp d
          exact z i w1 w2
      · rw [if_neg d] at h
        rw [decide_eq_true ?_]
        · exact h
        · rw [List.filter_eq_nil_iff]
          exact fun i w1 w2 => d (List.any_eq_true.mpr ⟨i, w1, w2⟩)
  · by_cases d : anyBad web os = true
    · rw [d] at k
      unfold anyBad at d
      rw [if_pos d]
      exact k
    · rw [Bool.not_eq_true] at d
      rw [d] at k
      unfold anyBad at d
      rw [if_neg (by rw [d]; decide)]
      exact k
theorem right_wp {Φ : Bool → Prop} (hw : ∀ t ∈ web, ToOk t) (hl : web.length ≤ 300) (ho : os.length ≤ 400) (k : Φ true) : (m_law_right web os).run Φ := by
  have okw : okD (web, os) := okD_of (show (∀ t ∈ web, Lay.ok t) ∧ (∀ x ∈ os, Lay.ok x) from ⟨fun t ht => to_lay (hw t ht), fun _ _ => trivial⟩)
  unfold m_law_right
  simp only [run_bind, run_rt]
  have key : ∀ (found : Option Bool) (marks : List Bool), (srtI os = rng 0 (web.length : Int) → found = some (!anyBad web os)) → (srtI os ≠ rng 0 (web.length : Int) → marks = [true, false, false]) → (m_law_right_R1 web os (web, os) found marks).run Φ := by
    intro found marks h1 h2
    unfold m_law_right_R1
    simp only [run_guard, run_if, run_rt, run_bind, eqD_self, Bool.not_true, Bool.false_eq_true, if_false]
    refine ⟨⟨okw, okw⟩, rgok (by omega), ⟨okD_pl _, okD_pl _⟩, ?_⟩
    rw [eqD_dec (x := srtI os)]
    by_cases c : srtI os = rng 0 (web.length : Int)
    · rw [decide_eq_true c, h1 c]
      simp only [Bool.not_true, Bool.false_eq_true, if_false, Option.isSome_some, if_true]
      refine keeps_wp hl ho c ⟨⟨okD_pl _, okD_pl _⟩, ?_⟩
      have : eqD (some (!anyBad web os)) (!anyBad web os) = true := eqD_self (!anyBad web os)
      rw [this]
      exact k
    · rw [decide_eq_false c, h2 c]
      simp only [Bool.not_false, if_true, eqD_self]
      exact ⟨⟨okD_pl _, okD_pl _⟩, k⟩
  refine exm_run (exm_run (same_wp hl ho (fun c => ?_) fun c => ?_))
  · simp only [ExP, run_bind, run_rt]
    exact key _ _ (fun _ => rfl) fun d => absurd c d
  · simp only [ExP, run_bind, run_rt, run_guard, run_if]
    refine ⟨rfl, ?_⟩
    exact key _ _ (fun d => absurd d c) fun _ => rfl
theorem cat_guard {α : Type} {xs ys : List α} (h : xs.length + ys.length ≤ 100000) : xs.length + ys.length ≤ sizeLine := small h
theorem dealt_wp {B : Nat} {s : Spr} {Φ : List Int × Spr → Prop} (hs : SpOk B s) (hB : B < 2 ^ 39) (ho : os.length ≤ 400) (k : ∀ l s', l.length ≤ os.length → SpOk (B + 400) s' → Φ (l, s')) : (m_law_dealt s os).run Φ := by
  unfold m_law_dealt
  simp only [run_bind, run_rt]
  refine forL_wp (fun t q => SpOk (B + t) q.1 ∧ q.2.length = t) ⟨hs, rfl⟩ ?_ ?_
  · rintro t x ⟨s, l⟩ hx ⟨q1, q2⟩
    dsimp only at q1 q2
    have ht := (List.getElem?_eq_some_iff.mp hx).1
    unfold m_law_dealt_L1
    simp only [run_bind, run_bind2, run_rt, run_guard]
    refine draw_wp q1 (by omega) (by omega) (by omega) fun p s1 a1 a2 hs1 => ?_
    dsimp only
    rw [cut_to a1, cut_from a1]
    have e1 : (l.take p.toNat).length = p.toNat := by rw [List.length_take]; omega
    have e2 : (l.drop p.toNat).length = t - p.toNat := by rw [List.length_drop]; omega
    refine ⟨small ?_, small ?_, hs1.mo (by omega), ?_⟩
    · rw [e1]; simp only [List.length_singleton]; omega
    · rw [List.length_append, e1, e2]; simp only [List.length_singleton]; omega
    · rw [List.length_append, List.length_append, e1, e2]; simp only [List.length_singleton]; omega
  · rintro ⟨s, l⟩ ⟨q1, q2⟩
    exact k l s (by rw [q2]; exact Nat.le_refl _) (q1.mo (by omega))
theorem splice {xs ys : List Int} {p r : Int} (hp : 0 ≤ p) (hr : 0 ≤ r) (hy : ys.length ≤ 2) (hx : xs.length ≤ 301) : (cut xs none (some p)).length + ys.length ≤ sizeLine ∧ (cut xs none (some p) ++ ys).length + (cut xs (some r) none).length ≤ sizeLine ∧
    ((cut xs none (some p) ++ ys) ++ cut xs (some r) none).length = min p.toNat xs.length + ys.length + (xs.length - r.toNat) := by
  rw [cut_to hp, cut_from hr]
  simp only [List.length_append, List.length_take, List.length_drop]
  exact ⟨small (by omega), small (by omega), trivial⟩
theorem splice0 {xs : List Int} {p r : Int} (hp : 0 ≤ p) (hr : 0 ≤ r) (hx : xs.length ≤ 301) : (cut xs none (some p)).length + (cut xs (some r) none).length ≤ sizeLine ∧
    (cut xs none (some p) ++ cut xs (some r) none).length = min p.toNat xs.length + (xs.length - r.toNat) := by
  rw [cut_to hp, cut_from hr]
  simp only [List.length_append, List.length_take, List.length_drop]
  exact ⟨small (by omega), trivial⟩
theorem cpow29 : CPow (10 : Int) (29 : Int) := by unfold CPow; decide
theorem bent_wp {B : Nat} {s : Spr} {kind : Int} {Φ : List Int × Spr → Prop} (hs : SpOk B s) (hB : B < 2 ^ 38) (ho : os.length ≤ 300) (k : ∀ l s', l.length ≤ os.length + 1 → SpOk (B + 500) s' → Φ (l, s')) : (m_law_bent s os kind).run Φ := by
  unfold m_law_bent
  simp only [run_bind, run_bind2, run_rt, run_guard, run_opt, run_ite, Bool.or_eq_true, Bool.or_eq_false_iff, Bool.and_eq_true, Bool.and_eq_false_iff, decide_eq_true_eq, decide_eq_false_iff_not]
  have hmx : 0 < (if (os.length : Int) > 1 then (os.length : Int) else 1) ∧ (if (os.length : Int) > 1 then (os.length : Int) else 1) ≤ 300 := by split <;> omega
  have hmx2 : (os.length : Int) ≠ 0 → (if (os.length : Int) > 1 then (os.length : Int) else 1) = os.length := fun h => by split <;> omega
  generalize (if (os.length : Int) > 1 then (os.length : Int) else 1) = mx at hmx hmx2 ⊢
  refine draw_wp hs (by omega) hmx.1 (by omega) fun p s1 a1 a2 hs1 => ?_
  refine draw_wp hs1 (by omega) hmx.1 (by omega) fun q s2 b1 b2 hs2 => ?_
  dsimp only
  refine ⟨fun _ => ?_, fun k7 => ⟨fun _ => k _ _ (by omega) (hs2.mo (by omega)), fun k3 => ?_⟩⟩
  · refine draw_wp hs2 (by omega) (by omega) (by omega) fun p s3 a1 a2 hs3 => ?_
    refine ⟨cpow29, wide_div (b := 2) (by decide) (by decide) (by decide) (by decide), ?_⟩
    refine draw_wp hs3 (by omega) (by decide) (by decide) fun x s4 c1 c2 hs4 => ?_
    dsimp only
    obtain ⟨y, _, ey⟩ := atI_some (xs := [(0 : Int), (os.length : Int), -1, ((10 : Int) ^ ((29 : Int)).toNat), ((os.length : Int) / 2)]) c1 (by simpa using c2)
    obtain ⟨g1, g2, g3⟩ := splice (xs := os) (ys := [y]) a1 a1 (by simp) (by omega)
    refine ⟨y, ey, g1, g2, k _ _ ?_ (hs4.mo (by omega))⟩
    rw [g3]; simp only [List.length_singleton]; omega
  · have hm0 : (os.length : Int) ≠ 0 := k3.1
    have hmx3 := hmx2 hm0
    have ha : p < os.length := by omega
    have hb : q < os.length := by omega
    refine ⟨fun h => ?_, fun _ => ⟨fun _ => ?_, fun _ => ⟨fun _ => ?_, fun _ => ⟨fun _ => ?_, fun _ => ?_⟩⟩⟩⟩
    · obtain ⟨y, _, ey⟩ := atI_some (xs := os) (i := p + 1) (by omega) (by omega)
      obtain ⟨z, _, ez⟩ := atI_some (xs := os) (i := p) (by omega) (by omega)
      obtain ⟨g1, g2, g3⟩ := splice (xs := os) (ys := [y, z]) (p := p) (r := p + 2) a1 (by omega) (by simp) (by omega)
      refine ⟨y, ey, z, ez, g1, g2, k _ _ ?_ (hs2.mo (by omega))⟩
      rw [g3]; simp only [List.length_cons, List.length_nil]; omega
    · obtain ⟨g0, g00⟩ := splice0 (xs := os) (p := p) (r := p + 1) a1 (by omega) (by omega)
      obtain ⟨z, _, ez⟩ := atI_some (xs := os) (i := p) (by omega) (by omega)
      refine ⟨g0, z, ez, ?_⟩
      obtain ⟨left, hleft⟩ : ∃ l, l = cut os none (some p) ++ cut os (some (p + 1)) none := ⟨_, rfl⟩
      rw [← hleft] at g00 ⊢
      obtain ⟨g1, g2, g3⟩ := splice (xs := left) (ys := [z]) (p := q) (r := q) b1 b1 (by simp) (by omega)
      refine ⟨g1, g2, k _ _ ?_ (hs2.mo (by omega))⟩
      rw [g3]; simp only [List.length_cons, List.length_nil]; omega
    · exact dealt_wp hs2 (by omega) (by omega) fun l s3 hl hs3 => k l s3 (by omega) (hs3.mo (by omega))
    · obtain ⟨z, _, ez⟩ := atI_some (xs := os) (i := q) (by omega) (by omega)
      refine ⟨z, ez, z, ez, cpow29, ?_⟩
      refine draw_wp hs2 (by omega) (by decide) (by decide) fun x s3 c1 c2 hs3 => ?_
      dsimp only
      obtain ⟨y, _, ey⟩ := atI_some (xs := [z, (os.length : Int), -1 - z, -1, ((10 : Int) ^ ((29 : Int)).toNat)]) c1 (by simpa using c2)
      obtain ⟨g1, g2, g3⟩ := splice (xs := os) (ys := [y]) (p := p) (r := p + 1) a1 (by omega) (by simp) (by omega)
      refine ⟨y, ey, g1, g2, k _ _ ?_ (hs3.mo (by omega))⟩
      rw [g3]; simp only [List.length_cons, List.length_nil]; omega
    · obtain ⟨g0, g00⟩ := splice0 (xs := os) (p := p) (r := p + 1) a1 (by omega) (by omega)
      refine ⟨g0, k _ _ (by rw [g00]; omega) (hs2.mo (by omega))⟩
end
theorem law_true {ns : List Int} (hl : ns.length ≤ 63) : (m_law ns).run (fun r => r = true) := by
  unfold m_law
  simp only [run_bind, run_bind2, run_rt, run_guard]
  refine spring_wp hl fun sp hsp => ?_
  generalize hm : (1 : Int) + (if (4 : Int) < (ns.length : Int) then (4 : Int) else (ns.length : Int)) = m
  have hm7 : 0 ≤ m ∧ m ≤ 5 := by rw [← hm]; split <;> omega
  refine ⟨⟨by decide, by decide, by omega, by omega⟩, ?_⟩
  refine compSG_wp (fun i s acc => SpOk i s ∧ acc.length = i) (small (by rw [rng_len]; omega)) ⟨hsp, rfl⟩ ?_ ?_
  · rintro i x s acc hx ⟨hs, ha⟩
    have hi : i < 5 := by
      have := (List.getElem?_eq_some_iff.mp hx).1
      rw [rng_len] at this
      omega
    simp only [run_bind2, run_rt]
    refine draw_wp hs (by omega) (by decide) (by decide) fun t s1 a1 a2 hs1 => ?_
    exact ⟨hs1, by simp [ha]⟩
  · rintro s kinds ⟨hs, ha⟩
    rw [rng_len] at ha hs
    dsimp only
    refine web_wp hs (by omega) (by decide) (by decide) fun web sp1 hw hl2 hsp1 => ?_
    dsimp only
    have hl3 : web.length ≤ 300 := hw.2
    refine forC_wp (fun i s => SpOk (5000 + 2000 * i) s) (hsp1.mo (by omega)) ?_ ?_
    · intro i x s hx hs
      have hi : i < 5 := by
        have := (List.getElem?_eq_some_iff.mp hx).1
        omega
      unfold m_law_L1
      simp only [run_bind, run_bind2, run_rt]
      refine free_wp hs (by omega) hl3 fun os s1 o1 o2 o3 o4 hs1 => ?_
      dsimp only
      refine bent_wp hs1 (by omega) (by rw [casts_len]; omega) fun l s2 h2 hs2 => ?_
      dsimp only
      rw [casts_len] at h2
      refine right_wp hw.1 hl3 (by omega) ?_
      rw [run_if, if_neg (by simp)]
      exact hs2.mo (by omega)
    · intro s hs
      simp only [W.after, run_rt]
end M

namespace M
open PySem L2 Z
section
def topS (i : Nat) : Stmt := PySem.Challenge.pw_fewnotes_k21_orders_of_a_web.main.body.getD i (.Pass ⟨0, 0, 0, 0⟩)
variable {P : Program} {w : World} {K : PySem.W.Frag} {mg : Str → Option Value} {base : Heap} {cl : Nat → Addr}
def sp_touches_meet (K : PySem.W.Frag) (cl : Nat → Addr) : Sp := fun vs H Q E => ∃ (amb : Grp) (Ho : Hp) (v0 : V) (x0 : (P3 Int Str Int)) (v1 : V) (x1 : (P3 Int Str Int)), vs = [v0, v1] ∧ Zs amb H Ho ∧ Z.D K Ho v0 x0 ∧ Z.D K Ho v1 x1 ∧ (m_touches_meet x0 x1).run fun r => ∀ v H' Ho', Same Ho Ho' → Zs amb H' Ho' → Z.D K Ho' v r → Q v H'
abbrev s_touches_meet : Stmt := topS 16
theorem sc_touches_meet : FnScope ["one", "other"] ["one", "other"] (defScope s_touches_meet) := ⟨rfl, rfl, rfl, by decide +kernel, rfl, by decide +kernel, by decide +kernel⟩
theorem ok_touches_meet {f : Addr} {fd : FuncData} (F : Fun K "touches_meet" "touches_meet" s_touches_meet f fd) :
    FnOk P w K mg base CX0 1 f fd ["one", "other"] (sp_touches_meet K cl) := by
  refine F.ok sc_touches_meet (fun vs H Q E h => ?_) (fun cdv A outer s H vs Q E hr h => ?_)
  · obtain ⟨amb, Ho, v_one_, one_, v_other_, other_, rfl, _⟩ := h
    rfl
  · obtain ⟨amb, Ho, v_one_, one_, v_other_, other_, rfl, z, d_one_, d_other_, hw⟩ := h
    refine ⟨_, pss_cons (ps_if (PW.pt (pw_or (pt_cmpR (op_eq) (pe_ix (zix_tup (K := K) rfl) (pv 0) (pe_int) (fun _ _ => rfl)) (pe_ix (zix_tup (K := K) rfl) (pv 1) (pe_int) (fun _ _ => rfl)) (nomark _)) (pw_or1 (pt_cmpR (op_ne) (pe_ix (zix_tup (K := K) rfl) (pv 0) (pe_int) (fun _ _ => rfl)) (pe_ix (zix_tup (K := K) rfl) (pv 1) (pe_int) (fun _ _ => rfl)) (nomark _))))) (pss_cons (ps_ret (pe_bl)) (pss_nil)) (pss_nil)) (pss_cons (ps_ret (pe_or (pe_cmpR (op_ne) (pe_ix (zix_tup (K := K) rfl) (pv 0) (pe_int) (fun _ _ => rfl)) (pe_str) (nomark _)) (pe_one (pe_cmpR (op_ne) (pe_ix (zix_tup (K := K) rfl) (pv 1) (pe_int) (fun _ _ => rfl)) (pe_str) (nomark _))))) (pss_nil)), ?_⟩
    refine y_ifS ?_
    refine y_or ?_
    refine y_test ?_
    refine y_op ?_
    refine y_op ?_
    refine y_var rfl ?_
    refine y_c ?_
    refine y_ixT (y := one_.a) d_one_ z ⟨_, rfl, rfl⟩ (fun w d1 => ?_)
    obtain rfl := d_int d1
    refine y_op ?_
    refine y_var rfl ?_
    refine y_c ?_
    refine y_ixT (y := other_.a) d_other_ z ⟨_, rfl, rfl⟩ (fun w d2 => ?_)
    obtain rfl := d_int d2
    refine y_eqi ?_
    refine ⟨_, rfl, ?_⟩
    refine w_orP (!decide (one_.c = other_.c)) (fun hb hq => ?_) ?_
    · refine y_test ?_
      refine y_op ?_
      refine y_op ?_
      refine y_var rfl ?_
      refine y_c ?_
      refine y_ixT (y := one_.c) d_one_ z ⟨_, rfl, rfl⟩ (fun w d3 => ?_)
      obtain rfl := d_int d3
      refine y_op ?_
      refine y_var rfl ?_
      refine y_c ?_
      refine y_ixT (y := other_.c) d_other_ z ⟨_, rfl, rfl⟩ (fun w d4 => ?_)
      obtain rfl := d_int d4
      refine y_nei ?_
      refine ⟨_, rfl, ?_⟩
      exact hq
    refine y_cases hw (fun hb hw => ?_) (fun hb hw => ?_)
    · refine y_ret ?_
      refine y_c ?_
      exact (run_ret hw) _ _ _ (Same.refl _) z (Dq.bl _)
    · refine y_nxS ?_
      refine y_ret ?_
      refine y_orV ?_
      refine y_op ?_
      refine y_op ?_
      refine y_var rfl ?_
      refine y_c ?_
      refine y_ixT (y := one_.b) d_one_ z ⟨_, rfl, rfl⟩ (fun w d5 => ?_)
      obtain rfl := d_str d5
      refine y_c ?_
      refine y_nes ?_
      refine ⟨_, rfl, ?_⟩
      refine w_orPV (!decide (other_.b = ("load" : Str))) (fun hb hq => ?_) ?_
      · refine y_op ?_
        refine y_op ?_
        refine y_var rfl ?_
        refine y_c ?_
        refine y_ixT (y := other_.b) d_other_ z ⟨_, rfl, rfl⟩ (fun w d6 => ?_)
        obtain rfl := d_str d6
        refine y_c ?_
        refine y_nes ?_
        exact hq
      exact (run_ret hw) _ _ _ (Same.refl _) z (Dq.bl _)
def sp_is_step (K : PySem.W.Frag) (cl : Nat → Addr) : Sp := fun vs H Q E => ∃ (amb : Grp) (Ho : Hp) (v0 : V) (x0 : (List (P3 Int Str Int))) (v1 : V) (x1 : Int) (v2 : V) (x2 : Int), vs = [v0, v1, v2] ∧ Zs amb H Ho ∧ LV K amb Ho v0 x0 ∧ Z.D K Ho v1 x1 ∧ Z.D K Ho v2 x2 ∧ (m_is_step x0 x1 x2).run fun r => ∀ v H' Ho', Same Ho Ho' → Zs amb H' Ho' → Z.D K Ho' v r → Q v H'
abbrev s_is_step : Stmt := topS 17
theorem sc_is_step : FnScope ["web", "i", "j"] ["web", "i", "j"] (defScope s_is_step) := ⟨rfl, rfl, rfl, by decide +kernel, rfl, by decide +kernel, by decide +kernel⟩
theorem ok_is_step {f : Addr} {fd : FuncData} (F : Fun K "is_step" "is_step" s_is_step f fd) {f_touches_meet : Addr} {fd_touches_meet : FuncData} (c_touches_meet : Cal P w K mg base CX0 "touches_meet" ["one", "other"] 1 (sp_touches_meet K cl) f_touches_meet fd_touches_meet) :
    FnOk P w K mg base CX0 2 f fd ["web", "i", "j"] (sp_is_step K cl) := by
  refine F.ok sc_is_step (fun vs H Q E h => ?_) (fun cdv A outer s H vs Q E hr h => ?_)
  · obtain ⟨amb, Ho, v_web_, web_, v_i_, i_, v_j_, j_, rfl, _⟩ := h
    rfl
  · obtain ⟨amb, Ho, v_web_, web_, v_i_, i_, v_j_, j_, rfl, z, d_web_, d_i_, d_j_, hw⟩ := h
    refine ⟨_, pss_cons (ps_ret (pe_or (pe_cmpR (op_eq) (pe_ix (zix_tup (K := K) rfl) (pe_ix (zix_list (K := K) rfl) (pv 0) (pv 1) (fun _ _ => rfl)) (pe_int) (fun _ _ => rfl)) (pe_ix (zix_tup (K := K) rfl) (pe_ix (zix_list (K := K) rfl) (pv 0) (pv 2) (fun _ _ => rfl)) (pe_int) (fun _ _ => rfl)) (nomark _)) (pe_one (pe_call c_touches_meet.ok (hr.mono (by decide)) (by rfl) c_touches_meet.g c_touches_meet.kp c_touches_meet.b .nil pass0 (pa_cons (pe_ix (zix_list (K := K) rfl) (pv 0) (pv 1) (fun _ _ => rfl)) (pa_cons (pe_ix (zix_list (K := K) rfl) (pv 0) (pv 2) (fun _ _ => rfl)) (pa_nil))))))) (pss_nil), ?_⟩
    obtain rfl := d_int d_i_
    obtain rfl := d_int d_j_
    refine y_ret ?_
    refine y_orV ?_
    refine y_op ?_
    refine y_op ?_
    refine y_op ?_
    refine y_var rfl ?_
    refine y_var rfl ?_
    refine y_ixL (LV.sub d_web_ mgE) z hw (fun t1 w d2 hw => ?_)
    refine y_c ?_
    refine y_ixT (y := t1.a) d2 z ⟨_, rfl, rfl⟩ (fun w d3 => ?_)
    obtain rfl := d_int d3
    refine y_op ?_
    refine y_op ?_
    refine y_var rfl ?_
    refine y_var rfl ?_
    refine y_ixL (LV.sub d_web_ mgE) z hw (fun t4 w d5 hw => ?_)
    refine y_c ?_
    refine y_ixT (y := t4.a) d5 z ⟨_, rfl, rfl⟩ (fun w d6 => ?_)
    obtain rfl := d_int d6
    refine y_eqi ?_
    refine ⟨_, rfl, ?_⟩
    refine w_orVJ hw (fun (s : Bool) (v : V) (H2 : Hp) => ∃ (Ho2 : Hp), Same Ho Ho2 ∧ Zs amb H2 Ho2 ∧ v = V.bl s) (fun hb hw => ?_) (fun hb hw => ?_) ?_
    · exact (run_ret hw) _ _ ⟨_, (Same.refl _), z, rfl⟩
    · refine y_call ?_
      refine y_cons ?_
      refine y_op ?_
      refine y_var rfl ?_
      refine y_var rfl ?_
      refine y_ixL (LV.sub d_web_ mgE) z hw (fun t7 w d8 hw => ?_)
      refine y_cons ?_
      refine y_op ?_
      refine y_var rfl ?_
      refine y_var rfl ?_
      refine y_ixL (LV.sub d_web_ mgE) z hw (fun t9 w d10 hw => ?_)
      refine y_nil ?_
      refine ⟨amb, _, _, _, _, _, rfl, z, d8, d10, ?_⟩
      refine run_mono' (run_b hw) (fun t11 hw v H Ho e z d12 => ?_)
      replace d_web_ := LV.mo d_web_ e
      have es14 := (Same.refl _).trans e
      obtain rfl := d_bool d12
      exact (run_ret hw) _ _ ⟨_, es14, z, rfl⟩
    rintro t15 v H ⟨Ho, e, z, rfl⟩ hw
    replace d_web_ := LV.mo d_web_ e
    have es17 := (Same.refl _).trans e
    exact (run_ret hw) _ _ _ es17 z (Dq.bl _)
def sp_stands_of (K : PySem.W.Frag) (cl : Nat → Addr) : Sp := fun vs H Q E => ∃ (amb : Grp) (Ho : Hp) (v0 : V) (x0 : (List (P3 Int Str Int))) (v1 : V) (x1 : (List Int)), vs = [v0, v1] ∧ Zs amb H Ho ∧ LV K amb Ho v0 x0 ∧ LV K amb Ho v1 x1 ∧ (m_stands_of x0 x1).run (ExP (fun r => ∀ v H' Ho', Same Ho Ho' → Zs amb H' Ho' → Z.D K Ho' v r → Q v H') fun e => ∀ H' Ho', Same Ho Ho' → Zs amb H' Ho' → E (.ref (cl e.cls)) none H')
abbrev s_stands_of : Stmt := topS 18
theorem sc_stands_of : FnScope ["web", "order", "stands", "at"] ["web", "order"] (defScope s_stands_of) := ⟨rfl, rfl, rfl, by decide +kernel, rfl, by decide +kernel, by decide +kernel⟩
theorem ok_stands_of {f : Addr} {fd : FuncData} (F : Fun K "stands_of" "stands_of" s_stands_of f fd) (m_sorted : mg "sorted" = none) (m_len : mg "len" = none) (m_list : mg "list" = none) (m_range : mg "range" = none) (xx_NoOrder : PySem.W.excIn K (cl 0) [.type "ValueError", .type "Exception", .type "BaseException", .type "object"] "ValueError.__new__" = true) (gc_NoOrder : mg "NoOrder" = some (.ref (cl 0))) (kk_NoOrder : PySem.W.keepIn K (.ref (cl 0)) = true) (bb_NoOrder : PySem.W.subIn K (.ref (cl 0)) (.type "BaseException") = some true) (tt_NoOrder : PySem.W.typeIn K (.ref (cl 0)) = some (.type "type")) :
    FnOk P w K mg base (L2.CX P w) 1 f fd ["web", "order"] (sp_stands_of K cl) := by
  refine F.okX sc_stands_of (fun vs H Q E h => ?_) (fun cdv A outer s H vs Q E hr h => ?_)
  · obtain ⟨amb, Ho, v_web_, web_, v_order_, order_, rfl, _⟩ := h
    rfl
  · obtain ⟨amb, Ho, v_web_, web_, v_order_, order_, rfl, z, d_web_, d_order_, hw⟩ := h
    refine ⟨_, pss_cons (ps_if (pt_cmpR (zop_neD (K := K) rfl hr.units) (pe_callB (zsortI (K := K) rfl) (by rfl) m_sorted (by decide +kernel) (pa_cons (pv 1) (pa_nil))) (pe_listRg rfl (by rfl) m_list (prg_1 (by rfl) m_range (pe_callB (zlen (K := K) rfl) (by rfl) m_len (by decide +kernel) (pa_cons (pv 0) (pa_nil))))) (nomark _)) (pss_cons (zps_raise (K := K) rfl rfl (takes_of rfl rfl rfl rfl) xx_NoOrder gc_NoOrder kk_NoOrder bb_NoOrder tt_NoOrder (by rfl)) (pss_nil)) (pss_nil)) (pss_cons (ps_set (i := 2) sc_stands_of.nd rfl (Or.inl rfl) (pe_op op_rep (pe_lst (pa_cons (pe_int) (pa_nil))) (pe_callB (zlen (K := K) rfl) (by rfl) m_len (by decide +kernel) (pa_cons (pv 0) (pa_nil))))) (pss_cons (ps_for (passes_of rfl) rfl (pi_range1 (by rfl) m_range (pa_cons (pe_callB (zlen (K := K) rfl) (by rfl) m_len (by decide +kernel) (pa_cons (pv 1) (pa_nil))) (pa_nil))) (pg_name (i := 3) sc_stands_of.nd rfl (Or.inl rfl)) (pss_cons (ps_asg (pv 3) (pg_sub (pv 2) (pe_ix (zix_list (K := K) rfl) (pv 1) (pv 3) (fun _ _ => rfl)) set_list)) (pss_nil))) (pss_cons (ps_ret (pv 2)) (pss_nil)))), ?_⟩
    refine y_ifS ?_
    refine y_test ?_
    refine y_op ?_
    refine y_cb ?_
    refine y_cons ?_
    refine y_var rfl ?_
    refine y_nil ?_
    refine y_sortI (LV.sub d_order_ mgE) z (fun H p1 ws2 z d3 => ?_)
    replace z : Zs ([(p1, HO.lst ws2)] ++ amb) H Ho := z
    have o4 := OL.mk (p := p1) d3
    refine k_lstRg ?_
    refine y_rg1 ?_
    refine y_cb ?_
    refine y_cons ?_
    refine y_var rfl ?_
    refine y_nil ?_
    refine y_len (LV.sub d_web_ (mgS mgE)) z ?_
    refine ⟨_, rfl, k_listR (K := K) (Ho := Ho) z hw.1 (fun H p5 ws6 z d7 => ?_)⟩
    replace hw := (run_gd hw).2
    replace z : Zs ([(p5, HO.lst ws6)] ++ ([(p1, HO.lst ws2)] ++ amb)) H Ho := z
    have o8 := OL.mk (p := p5) d7
    refine y_neD (LV.dp (OL.lv o4 (mgS mg0)) z) (LV.dp (OL.lv o8 mg0) z) hw.1 ?_
    replace hw := (run_gd hw).2
    refine ⟨_, rfl, ?_⟩
    refine y_cases hw (fun hb hw => ?_) (fun hb hw => ?_)
    · replace z : Zs amb _ _ := z.go [[(p5, HO.lst ws6)], [(p1, HO.lst ws2)]] amb []
      refine y_raise ?_
      exact exP_er (run_ret hw) _ _ (Same.refl _) z
    · refine y_nxS ?_
      replace z : Zs amb _ _ := z.go [[(p5, HO.lst ws6)], [(p1, HO.lst ws2)]] amb []
      refine l_asg (fun v => [_, _, some v, _]) (fun _ => rfl) ?_
      refine y_op ?_
      refine k_lst ?_
      refine y_cons ?_
      refine y_c ?_
      refine y_nil ?_
      refine k_lstk (K := K) (xs := ([(0 : Int)] : (List Int))) z (DqAll.cons (Dq.int _) DqAll.nil) (by show 1 ≤ sizeLine; decide) (fun H p9 ws10 z d11 => ?_)
      replace z : Zs ([(p9, HO.lst ws10)] ++ amb) H Ho := z
      have o12 := OL.mk (p := p9) d11
      refine y_cb ?_
      refine y_cons ?_
      refine y_var rfl ?_
      refine y_nil ?_
      refine y_len (LV.sub d_web_ (mgS mgE)) z ?_
      refine y_rep z d11 hw.1 (fun H p13 ws14 z d15 => ?_)
      replace hw := (run_gd hw).2
      replace z : Zs ([(p13, HO.lst ws14)] ++ amb) H Ho := z
      have o16 := OL.mk (p := p13) d15
      refine l_o hw z o16 (fun stands_ v_stands_ g_stands_ z d_stands_ hw => ?_)
      refine y_for ?_
      refine k_iR1 ?_
      refine y_cons ?_
      refine y_cb ?_
      refine y_cons ?_
      refine y_var rfl ?_
      refine y_nil ?_
      refine y_len (LV.sub d_order_ (mgS mgE)) z ?_
      refine y_nil ?_
      refine k_srcR1 (K := K) (Ho := Ho) hw.1 (fun J T => ?_)
      replace hw := (run_gd hw).2
      refine y_forL T hw (fun (s : (List Int)) (σ : L2.St) (H Ho : Hp) => ∃ (g_stands_ : Grp) (y_at_ : Option V), σ = [some v_web_, some v_order_, some v_stands_, y_at_] ∧ Zs (g_stands_ ++ amb) H Ho ∧ OL K Ho v_stands_ s g_stands_) ⟨_, _, rfl, z, d_stands_⟩ ?_ ?_ ?_ ?_
      · intro s σ H Ho hI
        obtain ⟨g_stands_, y_at_, rfl, z, d_stands_⟩ := hI
        exact ⟨_, z, mgN⟩
      · intro s σ H Ho H2 Ho2 hI e t
        obtain ⟨g_stands_, y_at_, rfl, z, d_stands_⟩ := hI
        exact ⟨_, _, rfl, t _ z, OL.mo d_stands_ e⟩
      · intro at_ v_at_ s σ H Ho N e hI d_at_ hw
        obtain ⟨stands_, rfl⟩ : ∃ q, q = s := ⟨_, rfl⟩
        obtain ⟨g_stands_, y_at_, rfl, z, d_stands_⟩ := hI
        replace d_order_ := LV.mo d_order_ e
        have es17 := (Same.refl _).trans e
        obtain rfl := d_int d_at_
        refine y_gname (σ' := [some v_web_, some v_order_, some v_stands_, some (V.int at_)]) rfl ?_
        refine y_asgG ?_
        refine y_var rfl ?_
        refine y_gsub ?_
        refine y_var rfl ?_
        refine y_op ?_
        refine y_var rfl ?_
        refine y_var rfl ?_
        refine y_ixL (LV.sub d_order_ (mgS mgE)) z hw (fun t18 w d19 hw => ?_)
        obtain rfl := d_int d19
        refine g_sti z d_stands_ (Dq.int _) hw (fun stands_ g_stands_ H z d_stands_ hw => ?_)
        exact (run_ret hw) _ _ _ (Same.refl _) ⟨_, _, rfl, z, d_stands_⟩
      intro s σ H Ho e hI hw
      obtain ⟨stands_, rfl⟩ : ∃ q, q = s := ⟨_, rfl⟩
      obtain ⟨g_stands_, y_at_, rfl, z, d_stands_⟩ := hI
      have es20 := (Same.refl _).trans e
      refine y_ret ?_
      refine y_var rfl ?_
      refine l_fr d_stands_ z (fun Ho e z d_stands_ => ?_)
      have es21 := es20.trans e
      exact (exP_ok (run_ret hw)) _ _ _ es21 z d_stands_
def sp_same_run (K : PySem.W.Frag) (cl : Nat → Addr) : Sp := fun vs H Q E => ∃ (amb : Grp) (Ho : Hp) (v0 : V) (x0 : (List (P3 Int Str Int))) (v1 : V) (x1 : (List Int)), vs = [v0, v1] ∧ Zs amb H Ho ∧ LV K amb Ho v0 x0 ∧ LV K amb Ho v1 x1 ∧ (m_same_run x0 x1).run (ExP (fun r => ∀ v H' Ho', Same Ho Ho' → Zs amb H' Ho' → Z.D K Ho' v r → Q v H') fun e => ∀ H' Ho', Same Ho Ho' → Zs amb H' Ho' → E (.ref (cl e.cls)) none H')
abbrev s_same_run : Stmt := topS 19
theorem sc_same_run : FnScope ["web", "order", "stands", "j", "i"] ["web", "order"] (defScope s_same_run) := ⟨rfl, rfl, rfl, by decide +kernel, rfl, by decide +kernel, by decide +kernel⟩
theorem ok_same_run {f : Addr} {fd : FuncData} (F : Fun K "same_run" "same_run" s_same_run f fd) {f_stands_of : Addr} {fd_stands_of : FuncData} (c_stands_of : Cal P w K mg base (L2.CX P w) "stands_of" ["web", "order"] 1 (sp_stands_of K cl) f_stands_of fd_stands_of) {f_is_step : Addr} {fd_is_step : FuncData} (c_is_step : Cal P w K mg base CX0 "is_step" ["web", "i", "j"] 2 (sp_is_step K cl) f_is_step fd_is_step) (m_len : mg "len" = none) (m_range : mg "range" = none) :
    FnOk P w K mg base (L2.CX P w) 3 f fd ["web", "order"] (sp_same_run K cl) := by
  refine F.okX sc_same_run (fun vs H Q E h => ?_) (fun cdv A outer s H vs Q E hr h => ?_)
  · obtain ⟨amb, Ho, v_web_, web_, v_order_, order_, rfl, _⟩ := h
    rfl
  · obtain ⟨amb, Ho, v_web_, web_, v_order_, order_, rfl, z, d_web_, d_order_, hw⟩ := h
    refine ⟨_, pss_cons (ps_set (i := 2) sc_same_run.nd rfl (Or.inl rfl) ((by exact (pe_callS c_stands_of.ok (hr.mono (by decide)) (by rfl) c_stands_of.g c_stands_of.kp c_stands_of.b (fun σ => passAt (takes_of rfl rfl rfl rfl) σ) (pa_cons (pv 0) (pa_cons (pv 1) (pa_nil))))))) (pss_cons (ps_for (passes_of rfl) rfl (pi_range1 (by rfl) m_range (pa_cons (pe_callB (zlen (K := K) rfl) (by rfl) m_len (by decide +kernel) (pa_cons (pv 0) (pa_nil))) (pa_nil))) (pg_name (i := 3) sc_same_run.nd rfl (Or.inl rfl)) (pss_cons (ps_for (passes_of rfl) rfl (pi_range1 (by rfl) m_range (pa_cons (pv 3) (pa_nil))) (pg_name (i := 4) sc_same_run.nd rfl (Or.inl rfl)) (pss_cons (ps_if (PW.pt (pw_and (pt_cmpR (op_gt) (pe_ix (zix_list (K := K) rfl) (pv 2) (pv 4) (fun _ _ => rfl)) (pe_ix (zix_list (K := K) rfl) (pv 2) (pv 3) (fun _ _ => rfl)) (nomark _)) (pw_and1 (pt_val (pe_call c_is_step.ok (hr.mono (by decide)) (by rfl) c_is_step.g c_is_step.kp c_is_step.b .nil pass0 (pa_cons (pv 0) (pa_cons (pv 4) (pa_cons (pv 3) (pa_nil))))))))) (pss_cons (ps_ret (pe_bl)) (pss_nil)) (pss_nil)) (pss_nil))) (pss_nil))) (pss_cons (ps_ret (pe_bl)) (pss_nil))), ?_⟩
    refine l_asg (fun v => [_, _, some v, _, _]) (fun _ => rfl) ?_
    refine y_callS ?_
    refine y_cons ?_
    refine y_var rfl ?_
    refine y_cons ?_
    refine y_var rfl ?_
    refine y_nil ?_
    refine ⟨amb, _, _, _, _, _, rfl, z, (LV.sub d_web_ mgE), (LV.sub d_order_ mgE), ?_⟩
    refine exm_mono (run_exm hw) (fun t1 hw v H Ho e z d2 => ?_) (fun er hw H Ho e z => ?_)
    rotate_left
    · exact exP_er (run_ret hw) _ _ ((Same.refl _).trans e) z
    replace d_order_ := LV.mo d_order_ e
    replace d_web_ := LV.mo d_web_ e
    have es4 := (Same.refl _).trans e
    refine l_d (K := K) (Ho := Ho) hw d2 (fun stands_ v_stands_ d_stands_ hw => ?_)
    refine y_for ?_
    refine k_iR1 ?_
    refine y_cons ?_
    refine y_cb ?_
    refine y_cons ?_
    refine y_var rfl ?_
    refine y_nil ?_
    refine y_len (LV.sub d_web_ mgE) z ?_
    refine y_nil ?_
    refine k_srcR1 (K := K) (Ho := Ho) hw.1 (fun J T => ?_)
    replace hw := (run_gd hw).2
    refine y_forC T hw (fun (s : Unit) (σ : L2.St) (H Ho : Hp) => ∃ (y_j_ : Option V) (y_i_ : Option V), σ = [some v_web_, some v_order_, some v_stands_, y_j_, y_i_] ∧ Zs amb H Ho) ⟨_, _, rfl, z⟩ ?_ ?_ ?_ ?_
    · intro s σ H Ho hI
      obtain ⟨y_j_, y_i_, rfl, z⟩ := hI
      exact ⟨_, z, mgN⟩
    · intro s σ H Ho H2 Ho2 hI e t
      obtain ⟨y_j_, y_i_, rfl, z⟩ := hI
      exact ⟨_, _, rfl, t _ z⟩
    · intro j_ v_j_ s σ H Ho N B e hI d_j_ hw
      obtain ⟨y_j_, y_i_, rfl, z⟩ := hI
      replace d_stands_ := D.mo d_stands_ e
      replace d_web_ := LV.mo d_web_ e
      have es5 := es4.trans e
      obtain rfl := d_int d_j_
      refine y_gname (σ' := [some v_web_, some v_order_, some v_stands_, some (V.int j_), y_i_]) rfl ?_
      refine y_for ?_
      refine k_iR1 ?_
      refine y_cons ?_
      refine y_var rfl ?_
      refine y_nil ?_
      refine k_srcR1 (K := K) (Ho := Ho) hw.1 (fun J T => ?_)
      replace hw := (run_gd hw).2
      refine y_forC T hw (fun (s : Unit) (σ : L2.St) (H Ho : Hp) => ∃ (y_i_ : Option V), σ = [some v_web_, some v_order_, some v_stands_, some (V.int j_), y_i_] ∧ Zs amb H Ho) ⟨_, rfl, z⟩ ?_ ?_ ?_ ?_
      · intro s σ H Ho hI
        obtain ⟨y_i_, rfl, z⟩ := hI
        exact ⟨_, z, mgN⟩
      · intro s σ H Ho H2 Ho2 hI e t
        obtain ⟨y_i_, rfl, z⟩ := hI
        exact ⟨_, rfl, t _ z⟩
      · intro i_ v_i_ s σ H Ho N B e hI d_i_ hw
        obtain ⟨y_i_, rfl, z⟩ := hI
        replace d_stands_ := D.mo d_stands_ e
        replace d_web_ := LV.mo d_web_ e
        have es6 := (Same.refl _).trans e
        obtain rfl := d_int d_i_
        refine y_gname (σ' := [some v_web_, some v_order_, some v_stands_, some (V.int j_), some (V.int i_)]) rfl ?_
        refine y_ifS ?_
        refine y_and ?_
        refine y_test ?_
        refine y_op ?_
        refine y_op ?_
        refine y_var rfl ?_
        refine y_var rfl ?_
        refine y_ixL (LV.of d_stands_) z hw (fun t7 w d8 hw => ?_)
        obtain rfl := d_int d8
        refine y_op ?_
        refine y_var rfl ?_
        refine y_var rfl ?_
        refine y_ixL (LV.of d_stands_) z hw (fun t9 w d10 hw => ?_)
        obtain rfl := d_int d10
        refine y_i0 ?_
        refine ⟨_, rfl, ?_⟩
        refine w_andJ hw (fun (s : Bool) (v : Bool) (H2 : Hp) => ∃ (Ho2 : Hp), Same Ho Ho2 ∧ Zs amb H2 Ho2 ∧ v = s) (fun hb hw => ?_) (fun hb hw => ?_) ?_
        · refine y_tB ?_
          refine y_call ?_
          refine y_cons ?_
          refine y_var rfl ?_
          refine y_cons ?_
          refine y_var rfl ?_
          refine y_cons ?_
          refine y_var rfl ?_
          refine y_nil ?_
          refine ⟨amb, _, _, _, _, _, _, _, rfl, z, (LV.sub d_web_ mgE), (Dq.int _), (Dq.int _), ?_⟩
          refine run_mono' (run_b hw) (fun t11 hw v H Ho e z d12 => ?_)
          replace d_stands_ := D.mo d_stands_ e
          replace d_web_ := LV.mo d_web_ e
          have es14 := (Same.refl _).trans e
          obtain rfl := d_bool d12
          refine ⟨_, rfl, ?_⟩
          exact (run_ret hw) _ _ ⟨_, es14, z, rfl⟩
        · exact (run_ret hw) _ _ ⟨_, (Same.refl _), z, rfl⟩
        rintro t15 v H ⟨Ho, e, z, rfl⟩ hw
        replace d_stands_ := D.mo d_stands_ e
        replace d_web_ := LV.mo d_web_ e
        have es17 := (Same.refl _).trans e
        refine y_cases hw (fun hb hw => ?_) (fun hb hw => ?_)
        · refine y_ret ?_
          refine y_c ?_
          exact (exP_ok (ctl_rt (ctl_rt (run_ret hw)))) _ _ _ ((es5.trans es6).trans es17) z (Dq.bl _)
        · refine y_nxS ?_
          exact ctl_nx (run_ret hw) _ _ _ es17 ⟨_, rfl, z⟩
      intro s σ H Ho e hI hw
      obtain ⟨y_i_, rfl, z⟩ := hI
      replace d_stands_ := D.mo d_stands_ e
      replace d_web_ := LV.mo d_web_ e
      have es18 := (Same.refl _).trans e
      exact ctl_nx (run_ret hw) _ _ _ es18 ⟨_, _, rfl, z⟩
    intro s σ H Ho e hI hw
    obtain ⟨y_j_, y_i_, rfl, z⟩ := hI
    have es19 := es4.trans e
    refine y_ret ?_
    refine y_c ?_
    exact (exP_ok (run_ret hw)) _ _ _ es19 z (Dq.bl _)
def sp_law_spring (K : PySem.W.Frag) (cl : Nat → Addr) : Sp := fun vs H Q E => ∃ (amb : Grp) (Ho : Hp) (v0 : V) (x0 : (List Int)), vs = [v0] ∧ Zs amb H Ho ∧ LV K amb Ho v0 x0 ∧ (m_law_spring x0).run fun r => ∀ v g H' Ho', Same Ho Ho' → Zs (g ++ amb) H' Ho' → OH K Ho' v r g → Q v H'
abbrev s_law_spring : Stmt := topS 21
theorem sc_law_spring : FnScope ["script", "figures", "stir", "cell"] ["script"] (defScope s_law_spring) := ⟨rfl, rfl, rfl, by decide +kernel, rfl, by decide +kernel, by decide +kernel⟩
theorem ok_law_spring {f : Addr} {fd : FuncData} (F : Fun K "_law_spring" "_law_spring" s_law_spring f fd) (m_abs : mg "abs" = none) :
    FnOk P w K mg base CX0 1 f fd ["script"] (sp_law_spring K cl) := by
  refine F.ok sc_law_spring (fun vs H Q E h => ?_) (fun cdv A outer s H vs Q E hr h => ?_)
  · obtain ⟨amb, Ho, v_script_, script_, rfl, _⟩ := h
    rfl
  · obtain ⟨amb, Ho, v_script_, script_, rfl, z, d_script_, hw⟩ := h
    refine ⟨_, pss_cons (ps_set (i := 1) sc_law_spring.nd rfl (Or.inl rfl) (pe_int)) (pss_cons (ps_set (i := 2) sc_law_spring.nd rfl (Or.inl rfl) (pe_int)) (pss_cons (ps_for PassesOwn.never rfl (zpi_list (K := K) rfl (pe_slice (zsl_list (K := K) rfl) (pv 0) po_none (po_some (pe_int)))) (pg_name (i := 3) sc_law_spring.nd rfl (Or.inl rfl)) (pss_cons (ps_if (pt_cmpR (op_ge) (pe_callB call_abs (by rfl) m_abs (by decide +kernel) (pa_cons (pv 3) (pa_nil))) (pe_op op_pow (pe_int) (pe_int)) (nomark _)) (pss_cons (ps_set (i := 1) sc_law_spring.nd rfl (Or.inl rfl) (pe_op op_add (pe_op op_mulW (pv 1) (pe_op op_pow (pe_int) (pe_int))) (pe_op op_mod (pe_callB call_abs (by rfl) m_abs (by decide +kernel) (pa_cons (pv 3) (pa_nil))) (pe_op op_pow (pe_int) (pe_int))))) (pss_nil)) (pss_nil)) (pss_cons (ps_set (i := 2) sc_law_spring.nd rfl (Or.inl rfl) (pe_op op_mod (pe_op op_add (pe_op op_add (pe_op op_mulW (pv 2) (pe_int)) (pe_op op_mod (pv 3) (pe_int))) (pe_int)) (pe_int))) (pss_nil)))) (pss_cons (ps_ret (pe_lst (pa_cons (pv 1) (pa_cons (pv 2) (pa_cons (pe_int) (pa_nil)))))) (pss_nil)))), ?_⟩
    refine l_asg (fun v => [_, some v, _, _]) (fun _ => rfl) ?_
    refine y_c ?_
    refine l_i hw (fun figures_ hw => ?_)
    refine l_asg (fun v => [_, _, some v, _]) (fun _ => rfl) ?_
    refine y_c ?_
    refine l_i hw (fun stir_ hw => ?_)
    refine y_for ?_
    refine k_iList ?_
    refine y_sl ?_
    refine y_var rfl ?_
    refine y_noPart ?_
    refine y_part ?_
    refine y_c ?_
    refine ⟨_, rfl, ?_⟩
    refine y_slL (LV.sub d_script_ mgE) z (fun H p1 ws2 z d3 => ?_)
    replace z : Zs ([(p1, HO.lst ws2)] ++ amb) H Ho := z
    have o4 := OL.mk (p := p1) d3
    refine k_srcL (r0 := [(p1, HO.lst ws2)]) (OL.lv o4 mgE) mg0 z (fun J T => ?_)
    refine y_forL T hw (fun (s : Int × Int) (σ : L2.St) (H Ho : Hp) => ∃ (y_cell_ : Option V), σ = [some v_script_, some (V.int s.1), some (V.int s.2), y_cell_] ∧ Zs ([(p1, HO.lst ws2)] ++ amb) H Ho) ⟨_, rfl, z⟩ ?_ ?_ ?_ ?_
    · intro s σ H Ho hI
      obtain ⟨figures_, stir_⟩ := s
      obtain ⟨y_cell_, rfl, z⟩ := hI
      exact ⟨_, z, mg0⟩
    · intro s σ H Ho H2 Ho2 hI e t
      obtain ⟨figures_, stir_⟩ := s
      obtain ⟨y_cell_, rfl, z⟩ := hI
      exact ⟨_, rfl, t _ z⟩
    · intro cell_ v_cell_ s σ H Ho N e hI d_cell_ hw
      obtain ⟨figures_, stir_⟩ := s
      obtain ⟨y_cell_, rfl, z⟩ := hI
      have es5 := (Same.refl _).trans e
      obtain rfl := d_int d_cell_
      refine y_gname (σ' := [some v_script_, some (V.int figures_), some (V.int stir_), some (V.int cell_)]) rfl ?_
      refine y_ifS ?_
      refine y_test ?_
      refine y_op ?_
      refine y_cb ?_
      refine y_cons ?_
      refine y_var rfl ?_
      refine y_nil ?_
      refine ⟨_, rfl, ?_⟩
      refine y_op ?_
      refine y_c ?_
      refine y_c ?_
      refine y_ig hw.1 ?_
      replace hw := (run_gd hw).2
      refine y_i0 ?_
      refine ⟨_, rfl, ?_⟩
      refine w_ifJ hw (fun (s : Int) (σ : L2.St) (H : Hp) => ∃ Ho2, Same Ho Ho2 ∧ (fun (s : Int) (σ : L2.St) (H Ho : Hp) => σ = [some v_script_, some (V.int s), some (V.int stir_), some (V.int cell_)] ∧ Zs ([(p1, HO.lst ws2)] ++ amb) H Ho) s σ H Ho2) (fun hb hw => ?_) (fun hb hw => ?_) ?_
      · refine l_asg (fun v => [_, some v, _, _]) (fun _ => rfl) ?_
        refine y_op ?_
        refine y_op ?_
        refine y_var rfl ?_
        refine y_op ?_
        refine y_c ?_
        refine y_c ?_
        refine y_ig hw.1 ?_
        replace hw := (run_gd hw).2
        refine y_ig hw.1 ?_
        replace hw := (run_gd hw).2
        refine y_op ?_
        refine y_cb ?_
        refine y_cons ?_
        refine y_var rfl ?_
        refine y_nil ?_
        refine ⟨_, rfl, ?_⟩
        refine y_op ?_
        refine y_c ?_
        refine y_c ?_
        refine y_ig hw.1 ?_
        replace hw := (run_gd hw).2
        refine y_ig hw.1 ?_
        replace hw := (run_gd hw).2
        refine y_i0 ?_
        refine l_i hw (fun figures_ hw => ?_)
        exact (run_ret hw) _ _ ⟨_, (Same.refl _), ⟨rfl, z⟩⟩
      · refine y_nxS ?_
        exact (run_ret hw) _ _ ⟨_, (Same.refl _), ⟨rfl, z⟩⟩
      rintro figures_ σ H ⟨Ho, e, rfl, z⟩ hw
      have es6 := (Same.refl _).trans e
      refine l_asg (fun v => [_, _, some v, _]) (fun _ => rfl) ?_
      refine y_op ?_
      refine y_op ?_
      refine y_op ?_
      refine y_op ?_
      refine y_var rfl ?_
      refine y_c ?_
      refine y_ig hw.1 ?_
      replace hw := (run_gd hw).2
      refine y_op ?_
      refine y_var rfl ?_
      refine y_c ?_
      refine y_ig (by decide) ?_
      refine y_i0 ?_
      refine y_c ?_
      refine y_i0 ?_
      refine y_c ?_
      refine y_ig (by decide) ?_
      refine l_i hw (fun stir_ hw => ?_)
      exact (run_ret hw) _ _ _ es6 ⟨_, rfl, z⟩
    intro s σ H Ho e hI hw
    obtain ⟨figures_, stir_⟩ := s
    obtain ⟨y_cell_, rfl, z⟩ := hI
    have es7 := (Same.refl _).trans e
    replace z : Zs amb _ _ := z.go [[(p1, HO.lst ws2)]] amb []
    refine y_ret ?_
    refine k_lst ?_
    refine y_cons ?_
    refine y_var rfl ?_
    refine y_cons ?_
    refine y_var rfl ?_
    refine y_cons ?_
    refine y_c ?_
    refine y_nil ?_
    refine k_hlst (K := K) (x := (⟨figures_, stir_, (0 : Int)⟩ : (H3 Int Int Int))) z (DqAll.cons (Dq.int _) (DqAll.cons (Dq.int _) (DqAll.cons (Dq.int _) DqAll.nil))) (by show 3 ≤ sizeLine; decide) (fun H p10 g8 z o9 => ?_)
    exact (run_ret hw) _ _ _ _ es7 z o9
def sp_law_draw (K : PySem.W.Frag) (cl : Nat → Addr) : Sp := fun vs H Q E => ∃ (amb : Grp) (Ho : Hp) (v0 : V) (x0 : (H3 Int Int Int)) (g0 : Grp) (v1 : V) (x1 : Int), vs = [v0, v1] ∧ Zs (g0 ++ amb) H Ho ∧ OH K Ho v0 x0 g0 ∧ Z.D K Ho v1 x1 ∧ (m_law_draw x0 x1).run fun r => ∀ v h0 H' Ho', Same Ho Ho' → Zs (h0 ++ amb) H' Ho' → Z.D K Ho' v r.1 → OH K Ho' v0 r.2 h0 → Q v H'
abbrev s_law_draw : Stmt := topS 22
theorem sc_law_draw : FnScope ["spring", "many", "found", "stir"] ["spring", "many"] (defScope s_law_draw) := ⟨rfl, rfl, rfl, by decide +kernel, rfl, by decide +kernel, by decide +kernel⟩
theorem ok_law_draw {f : Addr} {fd : FuncData} (F : Fun K "_law_draw" "_law_draw" s_law_draw f fd) :
    FnOk P w K mg base CX0 1 f fd ["spring", "many"] (sp_law_draw K cl) := by
  refine F.ok sc_law_draw (fun vs H Q E h => ?_) (fun cdv A outer s H vs Q E hr h => ?_)
  · obtain ⟨amb, Ho, v_spring_, spring_, g_spring_, v_many_, many_, rfl, _⟩ := h
    rfl
  · obtain ⟨amb, Ho, v_spring_, spring_, g_spring_, v_many_, many_, rfl, z, d_spring_, d_many_, hw⟩ := h
    refine ⟨_, pss_cons (ps_if (pt_cmpR (op_gt) (pe_ix (zix_list (K := K) rfl) (pv 0) (pe_int) (fun _ _ => rfl)) (pe_int) (nomark _)) (pss_cons (ps_set (i := 2) sc_law_draw.nd rfl (Or.inl rfl) (pe_op op_mod (pe_ix (zix_list (K := K) rfl) (pv 0) (pe_int) (fun _ _ => rfl)) (pv 1))) (pss_cons (ps_asg (pe_op op_fdivW (pe_ix (zix_list (K := K) rfl) (pv 0) (pe_int) (fun _ _ => rfl)) (pv 1)) (pg_sub (pv 0) (pe_int) set_list)) (pss_cons (ps_ret (pv 2)) (pss_nil)))) (pss_nil)) (pss_cons (ps_asg (pe_op op_add (pe_ix (zix_list (K := K) rfl) (pv 0) (pe_int) (fun _ _ => rfl)) (pe_int)) (pg_sub (pv 0) (pe_int) set_list)) (pss_cons (ps_set (i := 3) sc_law_draw.nd rfl (Or.inl rfl) (pe_op op_mod (pe_op op_mulW (pe_ix (zix_list (K := K) rfl) (pv 0) (pe_int) (fun _ _ => rfl)) (pe_ix (zix_list (K := K) rfl) (pv 0) (pe_int) (fun _ _ => rfl))) (pe_int))) (pss_cons (ps_asg (pe_op op_mod (pe_op op_add (pe_op op_add (pv 3) (pe_op op_mulW (pe_op op_mulW (pe_int) (pe_ix (zix_list (K := K) rfl) (pv 0) (pe_int) (fun _ _ => rfl))) (pe_ix (zix_list (K := K) rfl) (pv 0) (pe_int) (fun _ _ => rfl)))) (pe_int)) (pe_int)) (pg_sub (pv 0) (pe_int) set_list)) (pss_cons (ps_ret (pe_op op_mod (pe_op op_fdivW (pe_ix (zix_list (K := K) rfl) (pv 0) (pe_int) (fun _ _ => rfl)) (pe_int)) (pv 1))) (pss_nil))))), ?_⟩
    obtain rfl := d_int d_many_
    refine y_ifS ?_
    refine y_test ?_
    refine y_op ?_
    refine y_op ?_
    refine y_var rfl ?_
    refine y_c ?_
    refine h_ix (y := spring_.a) d_spring_ z rfl (fun w d1 => ?_)
    obtain rfl := d_int d1
    refine y_c ?_
    refine y_i0 ?_
    refine ⟨_, rfl, ?_⟩
    refine y_cases hw (fun hb hw => ?_) (fun hb hw => ?_)
    · refine l_asg (fun v => [_, _, some v, _]) (fun _ => rfl) ?_
      refine y_op ?_
      refine y_op ?_
      refine y_var rfl ?_
      refine y_c ?_
      refine h_ix (y := spring_.a) d_spring_ z rfl (fun w d2 => ?_)
      obtain rfl := d_int d2
      refine y_var rfl ?_
      refine y_ig hw.1 ?_
      replace hw := (run_gd hw).2
      refine l_i hw (fun found_ hw => ?_)
      refine y_asgG ?_
      refine y_op ?_
      refine y_op ?_
      refine y_var rfl ?_
      refine y_c ?_
      refine h_ix (y := spring_.a) d_spring_ z rfl (fun w d3 => ?_)
      obtain rfl := d_int d3
      refine y_var rfl ?_
      refine y_ig hw.1 ?_
      replace hw := (run_gd hw).2
      refine y_gsub ?_
      refine y_var rfl ?_
      refine y_c ?_
      refine h_st (y := ({ spring_ with a := (spring_.a / many_) } : (H3 Int Int Int))) z d_spring_ (Dq.int _) rfl rfl (fun g_spring_ H z d_spring_ => ?_)
      refine h_nm hw d_spring_ (fun spring_ d_spring_ hw => ?_)
      refine y_ret ?_
      refine y_var rfl ?_
      exact (run_ret hw) _ _ _ _ (Same.refl _) z (Dq.int _) d_spring_
    · refine y_nxS ?_
      refine y_asgG ?_
      refine y_op ?_
      refine y_op ?_
      refine y_var rfl ?_
      refine y_c ?_
      refine h_ix (y := spring_.c) d_spring_ z rfl (fun w d4 => ?_)
      obtain rfl := d_int d4
      refine y_c ?_
      refine y_i0 ?_
      refine y_gsub ?_
      refine y_var rfl ?_
      refine y_c ?_
      refine h_st (y := ({ spring_ with c := (spring_.c + (1 : Int)) } : (H3 Int Int Int))) z d_spring_ (Dq.int _) rfl rfl (fun g_spring_ H z d_spring_ => ?_)
      refine h_nm hw d_spring_ (fun spring_ d_spring_ hw => ?_)
      refine l_asg (fun v => [_, _, _, some v]) (fun _ => rfl) ?_
      refine y_op ?_
      refine y_op ?_
      refine y_op ?_
      refine y_var rfl ?_
      refine y_c ?_
      refine h_ix (y := spring_.b) d_spring_ z rfl (fun w d5 => ?_)
      obtain rfl := d_int d5
      refine y_op ?_
      refine y_var rfl ?_
      refine y_c ?_
      refine h_ix (y := spring_.b) d_spring_ z rfl (fun w d6 => ?_)
      obtain rfl := d_int d6
      refine y_ig hw.1 ?_
      replace hw := (run_gd hw).2
      refine y_c ?_
      refine y_ig (by decide) ?_
      refine l_i hw (fun stir_ hw => ?_)
      refine y_asgG ?_
      refine y_op ?_
      refine y_op ?_
      refine y_op ?_
      refine y_var rfl ?_
      refine y_op ?_
      refine y_op ?_
      refine y_c ?_
      refine y_op ?_
      refine y_var rfl ?_
      refine y_c ?_
      refine h_ix (y := spring_.c) d_spring_ z rfl (fun w d7 => ?_)
      obtain rfl := d_int d7
      refine y_ig hw.1 ?_
      replace hw := (run_gd hw).2
      refine y_op ?_
      refine y_var rfl ?_
      refine y_c ?_
      refine h_ix (y := spring_.b) d_spring_ z rfl (fun w d8 => ?_)
      obtain rfl := d_int d8
      refine y_ig hw.1 ?_
      replace hw := (run_gd hw).2
      refine y_i0 ?_
      refine y_c ?_
      refine y_i0 ?_
      refine y_c ?_
      refine y_ig (by decide) ?_
      refine y_gsub ?_
      refine y_var rfl ?_
      refine y_c ?_
      refine h_st (y := ({ spring_ with b := (((stir_ + (((7919 : Int) * spring_.c) * spring_.b)) + (104729 : Int)) % (2305843009213693951 : Int)) } : (H3 Int Int Int))) z d_spring_ (Dq.int _) rfl rfl (fun g_spring_ H z d_spring_ => ?_)
      refine h_nm hw d_spring_ (fun spring_ d_spring_ hw => ?_)
      refine y_ret ?_
      refine y_op ?_
      refine y_op ?_
      refine y_op ?_
      refine y_var rfl ?_
      refine y_c ?_
      refine h_ix (y := spring_.b) d_spring_ z rfl (fun w d9 => ?_)
      obtain rfl := d_int d9
      refine y_c ?_
      refine y_ig hw.1 ?_
      replace hw := (run_gd hw).2
      refine y_var rfl ?_
      refine y_ig hw.1 ?_
      replace hw := (run_gd hw).2
      exact (run_ret hw) _ _ _ _ (Same.refl _) z (Dq.int _) d_spring_
def sp_law_web (K : PySem.W.Frag) (cl : Nat → Addr) : Sp := fun vs H Q E => ∃ (amb : Grp) (Ho : Hp) (v0 : V) (x0 : (H3 Int Int Int)) (g0 : Grp) (v1 : V) (x1 : Int), vs = [v0, v1] ∧ Zs (g0 ++ amb) H Ho ∧ OH K Ho v0 x0 g0 ∧ Z.D K Ho v1 x1 ∧ (m_law_web x0 x1).run fun r => ∀ v h0 H' Ho', Same Ho Ho' → Zs (h0 ++ amb) H' Ho' → Z.D K Ho' v r.1 → OH K Ho' v0 r.2 h0 → Q v H'
abbrev s_law_web : Stmt := topS 23
theorem sc_law_web : FnScope ["spring", "most", "shape", "size", "hands", "first", "room", "base", "kinds", "web", "at", "hand", "kind"] ["spring", "most"] (defScope s_law_web) := ⟨rfl, rfl, rfl, by decide +kernel, rfl, by decide +kernel, by decide +kernel⟩
theorem ok_law_web {f : Addr} {fd : FuncData} (F : Fun K "_law_web" "_law_web" s_law_web f fd) {f_law_draw : Addr} {fd_law_draw : FuncData} (c_law_draw : Cal P w K mg base CX0 "_law_draw" ["spring", "many"] 1 (sp_law_draw K cl) f_law_draw fd_law_draw) (m_int : mg "int" = none) (m_range : mg "range" = none) (m_len : mg "len" = none) :
    FnOk P w K mg base CX0 2 f fd ["spring", "most"] (sp_law_web K cl) := by
  refine F.ok sc_law_web (fun vs H Q E h => ?_) (fun cdv A outer s H vs Q E hr h => ?_)
  · obtain ⟨amb, Ho, v_spring_, spring_, g_spring_, v_most_, most_, rfl, _⟩ := h
    rfl
  · obtain ⟨amb, Ho, v_spring_, spring_, g_spring_, v_most_, most_, rfl, z, d_spring_, d_most_, hw⟩ := h
    refine ⟨_, pss_cons (ps_set (i := 2) sc_law_web.nd rfl (Or.inl rfl) (pe_call c_law_draw.ok (hr.mono (by decide)) (by rfl) c_law_draw.g c_law_draw.kp c_law_draw.b .nil pass0 (pa_cons (pv 0) (pa_cons (pe_int) (pa_nil))))) (pss_cons (ps_set (i := 3) sc_law_web.nd rfl (Or.inl rfl) (pe_call c_law_draw.ok (hr.mono (by decide)) (by rfl) c_law_draw.g c_law_draw.kp c_law_draw.b .nil pass0 (pa_cons (pv 0) (pa_cons (pe_ix (zix_list (K := K) rfl) (pe_lst (pa_cons (pe_int) (pa_cons (pe_int) (pa_cons (pe_op op_add (pv 1) (pe_int)) (pa_nil))))) (pe_op op_add (pe_callTy call_int1 (by rfl) m_int (by decide +kernel) (pa_cons (pe_cmpR (op_eq) (pe_op op_mod (pv 2) (pe_int)) (pe_int) (nomark _)) (pa_nil))) (pe_callTy call_int1 (by rfl) m_int (by decide +kernel) (pa_cons (pe_cmpR (op_eq) (pv 2) (pe_int) (nomark _)) (pa_nil)))) (fun _ _ => rfl)) (pa_nil))))) (pss_cons (ps_set (i := 4) sc_law_web.nd rfl (Or.inl rfl) (pe_op op_add (pe_int) (pe_call c_law_draw.ok (hr.mono (by decide)) (by rfl) c_law_draw.g c_law_draw.kp c_law_draw.b .nil pass0 (pa_cons (pv 0) (pa_cons (pe_int) (pa_nil)))))) (pss_cons (ps_set (i := 5) sc_law_web.nd rfl (Or.inl rfl) (pe_call c_law_draw.ok (hr.mono (by decide)) (by rfl) c_law_draw.g c_law_draw.kp c_law_draw.b .nil pass0 (pa_cons (pv 0) (pa_cons (pe_int) (pa_nil))))) (pss_cons (ps_set (i := 6) sc_law_web.nd rfl (Or.inl rfl) (pe_ix (zix_list (K := K) rfl) (pe_lst (pa_cons (pe_int) (pa_cons (pe_int) (pa_cons (pe_int) (pa_cons (pe_int) (pa_cons (pe_int) (pa_nil))))))) (pe_call c_law_draw.ok (hr.mono (by decide)) (by rfl) c_law_draw.g c_law_draw.kp c_law_draw.b .nil pass0 (pa_cons (pv 0) (pa_cons (pe_int) (pa_nil)))) (fun _ _ => rfl))) (pss_cons (ps_set (i := 7) sc_law_web.nd rfl (Or.inl rfl) (pe_call c_law_draw.ok (hr.mono (by decide)) (by rfl) c_law_draw.g c_law_draw.kp c_law_draw.b .nil pass0 (pa_cons (pv 0) (pa_cons (pe_int) (pa_nil))))) (pss_cons (ps_set (i := 8) sc_law_web.nd rfl (Or.inl rfl) (pe_lst (pa_cons (pe_str) (pa_cons (pe_str) (pa_cons (pe_str) (pa_nil)))))) (pss_cons (ps_if (pt_cmpR (op_eq) (pe_call c_law_draw.ok (hr.mono (by decide)) (by rfl) c_law_draw.g c_law_draw.kp c_law_draw.b .nil pass0 (pa_cons (pv 0) (pa_cons (pe_int) (pa_nil)))) (pe_int) (nomark _)) (pss_cons (ps_set (i := 8) sc_law_web.nd rfl (Or.inl rfl) (pe_lst (pa_cons (pe_str) (pa_cons (pe_str) (pa_cons (pe_str) (pa_cons (pe_str) (pa_cons (pe_str) (pa_cons (pe_str) (pa_nil))))))))) (pss_nil)) (pss_nil)) (pss_cons (ps_set (i := 9) sc_law_web.nd rfl (Or.inl rfl) (pe_lst (pa_nil))) (pss_cons (ps_for PassesOwn.never rfl (pi_range1 (by rfl) m_range (pa_cons (pv 3) (pa_nil))) (pg_name (i := 10) sc_law_web.nd rfl (Or.inl rfl)) (pss_cons (ps_set (i := 11) sc_law_web.nd rfl (Or.inl rfl) (pe_op op_mod (pe_op op_add (pv 5) (pe_call c_law_draw.ok (hr.mono (by decide)) (by rfl) c_law_draw.g c_law_draw.kp c_law_draw.b .nil pass0 (pa_cons (pv 0) (pa_cons (pv 4) (pa_nil))))) (pe_int))) (pss_cons (ps_set (i := 12) sc_law_web.nd rfl (Or.inl rfl) (pe_ix (zix_list (K := K) rfl) (pv 8) (pe_call c_law_draw.ok (hr.mono (by decide)) (by rfl) c_law_draw.g c_law_draw.kp c_law_draw.b .nil pass0 (pa_cons (pv 0) (pa_cons (pe_callB (zlen (K := K) rfl) (by rfl) m_len (by decide +kernel) (pa_cons (pv 8) (pa_nil))) (pa_nil)))) (fun _ _ => rfl))) (pss_cons (ps_expr (pe_bm PySem.F.plainAttrs_list PySem.F.slot_list_append PySem.F.type_list_append mt_append (pv 9) (pa_cons (pe_tup (pa_cons (pv 11) (pa_cons (pv 12) (pa_cons (pe_op op_mod (pe_op op_add (pv 7) (pe_call c_law_draw.ok (hr.mono (by decide)) (by rfl) c_law_draw.g c_law_draw.kp c_law_draw.b .nil pass0 (pa_cons (pv 0) (pa_cons (pv 6) (pa_nil))))) (pe_int)) (pa_nil))))) (pa_nil)))) (pss_nil))))) (pss_cons (ps_ret (pv 9)) (pss_nil))))))))))), ?_⟩
    obtain rfl := d_int d_most_
    refine l_asg (fun v => [_, _, some v, _, _, _, _, _, _, _, _, _, _]) (fun _ => rfl) ?_
    refine y_call ?_
    refine y_cons ?_
    refine y_var rfl ?_
    refine y_cons ?_
    refine y_c ?_
    refine y_nil ?_
    refine ⟨amb, _, _, _, _, _, _, rfl, z, d_spring_, (Dq.int _), ?_⟩
    refine run_mono2 hw (fun t1 spring_ hw v g_spring_ H Ho e z d2 d_spring_ => ?_)
    replace d2 : Z.D K Ho v t1 := d2
    replace d_spring_ : OH K Ho v_spring_ spring_ g_spring_ := d_spring_
    have es4 := (Same.refl _).trans e
    obtain rfl := d_int d2
    refine l_i hw (fun shape_ hw => ?_)
    refine l_asg (fun v => [_, _, _, some v, _, _, _, _, _, _, _, _, _]) (fun _ => rfl) ?_
    refine y_call ?_
    refine y_cons ?_
    refine y_var rfl ?_
    refine y_cons ?_
    refine y_op ?_
    refine k_lst ?_
    refine y_cons ?_
    refine y_c ?_
    refine y_cons ?_
    refine y_c ?_
    refine y_cons ?_
    refine y_op ?_
    refine y_var rfl ?_
    refine y_c ?_
    refine y_i0 ?_
    refine y_nil ?_
    refine k_lstk (K := K) (xs := ([(31 : Int), (101 : Int), (most_ + (1 : Int))] : (List Int))) z (DqAll.cons (Dq.int _) (DqAll.cons (Dq.int _) (DqAll.cons (Dq.int _) DqAll.nil))) (by show 3 ≤ sizeLine; decide) (fun H p5 ws6 z d7 => ?_)
    replace z : Zs ([(p5, HO.lst ws6)] ++ (g_spring_ ++ amb)) H Ho := z
    have o8 := OL.mk (p := p5) d7
    refine y_op ?_
    refine y_cb ?_
    refine y_cons ?_
    refine y_op ?_
    refine y_op ?_
    refine y_var rfl ?_
    refine y_c ?_
    refine y_ig (by decide) ?_
    refine y_c ?_
    refine y_eqi ?_
    refine y_nil ?_
    refine Or.inr ⟨_, rfl, ?_⟩
    refine y_cb ?_
    refine y_cons ?_
    refine y_op ?_
    refine y_var rfl ?_
    refine y_c ?_
    refine y_eqi ?_
    refine y_nil ?_
    refine Or.inr ⟨_, rfl, ?_⟩
    refine y_i0 ?_
    refine y_ixL (OL.lv o8 mg0) z hw (fun t9 w d10 hw => ?_)
    obtain rfl := d_int d10
    refine y_nil ?_
    replace z : Zs (g_spring_ ++ ([(p5, HO.lst ws6)] ++ amb)) _ _ := z.go [[(p5, HO.lst ws6)], g_spring_] amb [1, 0]
    refine ⟨([(p5, HO.lst ws6)] ++ amb), _, _, _, _, _, _, rfl, z, d_spring_, (Dq.int _), ?_⟩
    refine run_mono2 hw (fun t11 spring_ hw v g_spring_ H Ho e z d12 d_spring_ => ?_)
    replace d12 : Z.D K Ho v t11 := d12
    replace d_spring_ : OH K Ho v_spring_ spring_ g_spring_ := d_spring_
    have es14 := es4.trans e
    obtain rfl := d_int d12
    refine l_i hw (fun size_ hw => ?_)
    replace z : Zs (g_spring_ ++ amb) _ _ := z.go [g_spring_, [(p5, HO.lst ws6)]] amb [0]
    refine l_asg (fun v => [_, _, _, _, some v, _, _, _, _, _, _, _, _]) (fun _ => rfl) ?_
    refine y_op ?_
    refine y_c ?_
    refine y_call ?_
    refine y_cons ?_
    refine y_var rfl ?_
    refine y_cons ?_
    refine y_c ?_
    refine y_nil ?_
    refine ⟨amb, _, _, _, _, _, _, rfl, z, d_spring_, (Dq.int _), ?_⟩
    refine run_mono2 hw (fun t15 spring_ hw v g_spring_ H Ho e z d16 d_spring_ => ?_)
    replace d16 : Z.D K Ho v t15 := d16
    replace d_spring_ : OH K Ho v_spring_ spring_ g_spring_ := d_spring_
    have es18 := es14.trans e
    obtain rfl := d_int d16
    refine y_i0 ?_
    refine l_i hw (fun hands_ hw => ?_)
    refine l_asg (fun v => [_, _, _, _, _, some v, _, _, _, _, _, _, _]) (fun _ => rfl) ?_
    refine y_call ?_
    refine y_cons ?_
    refine y_var rfl ?_
    refine y_cons ?_
    refine y_c ?_
    refine y_nil ?_
    refine ⟨amb, _, _, _, _, _, _, rfl, z, d_spring_, (Dq.int _), ?_⟩
    refine run_mono2 hw (fun t19 spring_ hw v g_spring_ H Ho e z d20 d_spring_ => ?_)
    replace d20 : Z.D K Ho v t19 := d20
    replace d_spring_ : OH K Ho v_spring_ spring_ g_spring_ := d_spring_
    have es22 := es18.trans e
    obtain rfl := d_int d20
    refine l_i hw (fun first_ hw => ?_)
    refine l_asg (fun v => [_, _, _, _, _, _, some v, _, _, _, _, _, _]) (fun _ => rfl) ?_
    refine y_op ?_
    refine k_lst ?_
    refine y_cons ?_
    refine y_c ?_
    refine y_cons ?_
    refine y_c ?_
    refine y_cons ?_
    refine y_c ?_
    refine y_cons ?_
    refine y_c ?_
    refine y_cons ?_
    refine y_c ?_
    refine y_nil ?_
    refine k_lstk (K := K) (xs := ([(1 : Int), (2 : Int), (3 : Int), (5 : Int), (20 : Int)] : (List Int))) z (DqAll.cons (Dq.int _) (DqAll.cons (Dq.int _) (DqAll.cons (Dq.int _) (DqAll.cons (Dq.int _) (DqAll.cons (Dq.int _) DqAll.nil))))) (by show 5 ≤ sizeLine; decide) (fun H p23 ws24 z d25 => ?_)
    replace z : Zs ([(p23, HO.lst ws24)] ++ (g_spring_ ++ amb)) H Ho := z
    have o26 := OL.mk (p := p23) d25
    refine y_call ?_
    refine y_cons ?_
    refine y_var rfl ?_
    refine y_cons ?_
    refine y_c ?_
    refine y_nil ?_
    replace z : Zs (g_spring_ ++ ([(p23, HO.lst ws24)] ++ amb)) _ _ := z.go [[(p23, HO.lst ws24)], g_spring_] amb [1, 0]
    refine ⟨([(p23, HO.lst ws24)] ++ amb), _, _, _, _, _, _, rfl, z, d_spring_, (Dq.int _), ?_⟩
    refine run_mono2 hw (fun t27 spring_ hw v g_spring_ H Ho e z d28 d_spring_ => ?_)
    replace d28 : Z.D K Ho v t27 := d28
    replace d_spring_ : OH K Ho v_spring_ spring_ g_spring_ := d_spring_
    replace o26 := OL.mo o26 e
    have es30 := es22.trans e
    obtain rfl := d_int d28
    refine y_ixL (OL.lv o26 (mgS mg0)) z hw (fun t31 w d32 hw => ?_)
    obtain rfl := d_int d32
    refine l_i hw (fun room_ hw => ?_)
    replace z : Zs (g_spring_ ++ amb) _ _ := z.go [g_spring_, [(p23, HO.lst ws24)]] amb [0]
    refine l_asg (fun v => [_, _, _, _, _, _, _, some v, _, _, _, _, _]) (fun _ => rfl) ?_
    refine y_call ?_
    refine y_cons ?_
    refine y_var rfl ?_
    refine y_cons ?_
    refine y_c ?_
    refine y_nil ?_
    refine ⟨amb, _, _, _, _, _, _, rfl, z, d_spring_, (Dq.int _), ?_⟩
    refine run_mono2 hw (fun t33 spring_ hw v g_spring_ H Ho e z d34 d_spring_ => ?_)
    replace d34 : Z.D K Ho v t33 := d34
    replace d_spring_ : OH K Ho v_spring_ spring_ g_spring_ := d_spring_
    have es36 := es30.trans e
    obtain rfl := d_int d34
    refine l_i hw (fun base_ hw => ?_)
    refine l_asg (fun v => [_, _, _, _, _, _, _, _, some v, _, _, _, _]) (fun _ => rfl) ?_
    refine k_lst ?_
    refine y_cons ?_
    refine y_c ?_
    refine y_cons ?_
    refine y_c ?_
    refine y_cons ?_
    refine y_c ?_
    refine y_nil ?_
    refine k_lstk (K := K) (xs := ([("load" : Str), ("store" : Str), ("swap" : Str)] : (List Str))) z (DqAll.cons (Dq.str _) (DqAll.cons (Dq.str _) (DqAll.cons (Dq.str _) DqAll.nil))) (by show 3 ≤ sizeLine; decide) (fun H p37 ws38 z d39 => ?_)
    replace z : Zs ([(p37, HO.lst ws38)] ++ (g_spring_ ++ amb)) H Ho := z
    have o40 := OL.mk (p := p37) d39
    refine l_fr o40 z (fun Ho e z d41 => ?_)
    replace d_spring_ := OH.mo d_spring_ e
    have es42 := es36.trans e
    refine l_d (K := K) (Ho := Ho) hw d41 (fun kinds_ v_kinds_ d_kinds_ hw => ?_)
    refine y_ifS ?_
    refine y_test ?_
    refine y_op ?_
    refine y_call ?_
    refine y_cons ?_
    refine y_var rfl ?_
    refine y_cons ?_
    refine y_c ?_
    refine y_nil ?_
    refine ⟨amb, _, _, _, _, _, _, rfl, z, d_spring_, (Dq.int _), ?_⟩
    refine run_mono2 hw (fun t43 spring_ hw v g_spring_ H Ho e z d44 d_spring_ => ?_)
    replace d44 : Z.D K Ho v t43 := d44
    replace d_spring_ : OH K Ho v_spring_ spring_ g_spring_ := d_spring_
    replace d_kinds_ := D.mo d_kinds_ e
    have es46 := es42.trans e
    obtain rfl := d_int d44
    refine y_c ?_
    refine y_eqi ?_
    refine ⟨_, rfl, ?_⟩
    refine w_ifJ hw (fun (s : (List Str)) (σ : L2.St) (H : Hp) => ∃ Ho2, Same Ho Ho2 ∧ (fun (s : (List Str)) (σ : L2.St) (H Ho : Hp) => ∃ (v_kinds_ : V), σ = [some v_spring_, some (V.int most_), some (V.int shape_), some (V.int size_), some (V.int hands_), some (V.int first_), some (V.int room_), some (V.int base_), some v_kinds_, none, none, none, none] ∧ Zs (g_spring_ ++ amb) H Ho ∧ Z.D K Ho v_kinds_ s) s σ H Ho2) (fun hb hw => ?_) (fun hb hw => ?_) ?_
    · refine l_asg (fun v => [_, _, _, _, _, _, _, _, some v, _, _, _, _]) (fun _ => rfl) ?_
      refine k_lst ?_
      refine y_cons ?_
      refine y_c ?_
      refine y_cons ?_
      refine y_c ?_
      refine y_cons ?_
      refine y_c ?_
      refine y_cons ?_
      refine y_c ?_
      refine y_cons ?_
      refine y_c ?_
      refine y_cons ?_
      refine y_c ?_
      refine y_nil ?_
      refine k_lstk (K := K) (xs := ([("load" : Str), ("load" : Str), ("load" : Str), ("load" : Str), ("store" : Str), ("swap" : Str)] : (List Str))) z (DqAll.cons (Dq.str _) (DqAll.cons (Dq.str _) (DqAll.cons (Dq.str _) (DqAll.cons (Dq.str _) (DqAll.cons (Dq.str _) (DqAll.cons (Dq.str _) DqAll.nil)))))) (by show 6 ≤ sizeLine; decide) (fun H p47 ws48 z d49 => ?_)
      replace z : Zs ([(p47, HO.lst ws48)] ++ (g_spring_ ++ amb)) H Ho := z
      have o50 := OL.mk (p := p47) d49
      refine l_fr o50 z (fun Ho e z d51 => ?_)
      replace d_kinds_ := D.mo d_kinds_ e
      replace d_spring_ := OH.mo d_spring_ e
      have es52 := (Same.refl _).trans e
      refine l_d (K := K) (Ho := Ho) hw d51 (fun kinds_ v_kinds_ d_kinds_ hw => ?_)
      exact (run_ret hw) _ _ ⟨_, es52, ⟨_, rfl, z, d_kinds_⟩⟩
    · refine y_nxS ?_
      exact (run_ret hw) _ _ ⟨_, (Same.refl _), ⟨_, rfl, z, d_kinds_⟩⟩
    rintro kinds_ σ H ⟨Ho, e, v_kinds_, rfl, z, d_kinds_⟩ hw
    replace d_spring_ := OH.mo d_spring_ e
    have es53 := es46.trans e
    refine l_asg (fun v => [_, _, _, _, _, _, _, _, _, some v, _, _, _]) (fun _ => rfl) ?_
    refine k_lst ?_
    refine y_nil ?_
    refine k_lstk (K := K) (xs := ([] : (List (P3 Int Str Int)))) z DqAll.nil (by show 0 ≤ sizeLine; decide) (fun H p54 ws55 z d56 => ?_)
    replace z : Zs ([(p54, HO.lst ws55)] ++ (g_spring_ ++ amb)) H Ho := z
    have o57 := OL.mk (p := p54) d56
    refine l_o hw z o57 (fun web_ v_web_ g_web_ z d_web_ hw => ?_)
    refine y_for ?_
    refine k_iR1 ?_
    refine y_cons ?_
    refine y_var rfl ?_
    refine y_nil ?_
    refine k_srcR1 (K := K) (Ho := Ho) hw.1 (fun J T => ?_)
    replace hw := (run_gd hw).2
    refine y_forL T hw (fun (s : (H3 Int Int Int) × (List (P3 Int Str Int))) (σ : L2.St) (H Ho : Hp) => ∃ (g_spring_ : Grp) (g_web_ : Grp) (y_at_ : Option V) (y_hand_ : Option V) (y_kind_ : Option V), σ = [some v_spring_, some (V.int most_), some (V.int shape_), some (V.int size_), some (V.int hands_), some (V.int first_), some (V.int room_), some (V.int base_), some v_kinds_, some v_web_, y_at_, y_hand_, y_kind_] ∧ Zs (g_web_ ++ (g_spring_ ++ amb)) H Ho ∧ OH K Ho v_spring_ s.1 g_spring_ ∧ OL K Ho v_web_ s.2 g_web_) ⟨_, _, _, _, _, rfl, z, d_spring_, d_web_⟩ ?_ ?_ ?_ ?_
    · intro s σ H Ho hI
      obtain ⟨spring_, web_⟩ := s
      obtain ⟨g_spring_, g_web_, y_at_, y_hand_, y_kind_, rfl, z, d_spring_, d_web_⟩ := hI
      exact ⟨_, z, mgN⟩
    · intro s σ H Ho H2 Ho2 hI e t
      obtain ⟨spring_, web_⟩ := s
      obtain ⟨g_spring_, g_web_, y_at_, y_hand_, y_kind_, rfl, z, d_spring_, d_web_⟩ := hI
      exact ⟨_, _, _, _, _, rfl, t _ z, OH.mo d_spring_ e, OL.mo d_web_ e⟩
    · intro at_ v_at_ s σ H Ho N e hI d_at_ hw
      obtain ⟨spring_, web_⟩ := s
      obtain ⟨g_spring_, g_web_, y_at_, y_hand_, y_kind_, rfl, z, d_spring_, d_web_⟩ := hI
      replace d_kinds_ := D.mo d_kinds_ e
      have es58 := es53.trans e
      obtain rfl := d_int d_at_
      refine y_gname (σ' := [some v_spring_, some (V.int most_), some (V.int shape_), some (V.int size_), some (V.int hands_), some (V.int first_), some (V.int room_), some (V.int base_), some v_kinds_, some v_web_, some (V.int at_), y_hand_, y_kind_]) rfl ?_
      refine l_asg (fun v => [_, _, _, _, _, _, _, _, _, _, _, some v, _]) (fun _ => rfl) ?_
      refine y_op ?_
      refine y_op ?_
      refine y_var rfl ?_
      refine y_call ?_
      refine y_cons ?_
      refine y_var rfl ?_
      refine y_cons ?_
      refine y_var rfl ?_
      refine y_nil ?_
      replace z : Zs (g_spring_ ++ (g_web_ ++ amb)) _ _ := z.go [g_web_, g_spring_] amb [1, 0]
      refine ⟨(g_web_ ++ amb), _, _, _, _, _, _, rfl, z, d_spring_, (Dq.int _), ?_⟩
      refine run_mono2 hw (fun t59 spring_ hw v g_spring_ H Ho e z d60 d_spring_ => ?_)
      replace d60 : Z.D K Ho v t59 := d60
      replace d_spring_ : OH K Ho v_spring_ spring_ g_spring_ := d_spring_
      replace d_kinds_ := D.mo d_kinds_ e
      replace d_web_ := OL.mo d_web_ e
      have es62 := (Same.refl _).trans e
      obtain rfl := d_int d60
      refine y_i0 ?_
      refine y_c ?_
      refine y_ig (by decide) ?_
      refine l_i hw (fun hand_ hw => ?_)
      refine l_asg (fun v => [_, _, _, _, _, _, _, _, _, _, _, _, some v]) (fun _ => rfl) ?_
      refine y_op ?_
      refine y_var rfl ?_
      refine y_call ?_
      refine y_cons ?_
      refine y_var rfl ?_
      refine y_cons ?_
      refine y_cb ?_
      refine y_cons ?_
      refine y_var rfl ?_
      refine y_nil ?_
      refine y_len (LV.of d_kinds_) z ?_
      refine y_nil ?_
      refine ⟨(g_web_ ++ amb), _, _, _, _, _, _, rfl, z, d_spring_, (Dq.int _), ?_⟩
      refine run_mono2 hw (fun t63 spring_ hw v g_spring_ H Ho e z d64 d_spring_ => ?_)
      replace d64 : Z.D K Ho v t63 := d64
      replace d_spring_ : OH K Ho v_spring_ spring_ g_spring_ := d_spring_
      replace d_kinds_ := D.mo d_kinds_ e
      replace d_web_ := OL.mo d_web_ e
      have es66 := es62.trans e
      obtain rfl := d_int d64
      refine y_ixL (LV.of d_kinds_) z hw (fun t67 w d68 hw => ?_)
      obtain rfl := d_str d68
      refine l_s hw (fun kind_ hw => ?_)
      refine y_drop ?_
      refine y_bm ?_
      refine y_var rfl ?_
      refine g_tyL (OL.lv d_web_ (mgS mg0)) z ?_
      refine y_cons ?_
      refine k_tup ?_
      refine y_cons ?_
      refine y_var rfl ?_
      refine y_cons ?_
      refine y_var rfl ?_
      refine y_cons ?_
      refine y_op ?_
      refine y_op ?_
      refine y_var rfl ?_
      refine y_call ?_
      refine y_cons ?_
      refine y_var rfl ?_
      refine y_cons ?_
      refine y_var rfl ?_
      refine y_nil ?_
      refine ⟨(g_web_ ++ amb), _, _, _, _, _, _, rfl, z, d_spring_, (Dq.int _), ?_⟩
      refine run_mono2 hw (fun t69 spring_ hw v g_spring_ H Ho e z d70 d_spring_ => ?_)
      replace d70 : Z.D K Ho v t69 := d70
      replace d_spring_ : OH K Ho v_spring_ spring_ g_spring_ := d_spring_
      replace d_kinds_ := D.mo d_kinds_ e
      replace d_web_ := OL.mo d_web_ e
      have es72 := es66.trans e
      obtain rfl := d_int d70
      refine y_i0 ?_
      refine y_c ?_
      refine y_ig (by decide) ?_
      refine y_nil ?_
      refine k_tupk (K := K) (x := (⟨hand_, kind_, ((base_ + t69) % (20 : Int))⟩ : (P3 Int Str Int))) z (by show 3 ≤ sizeLine; decide) _ rfl (DqAll.cons (Dq.int _) (DqAll.cons (Dq.str _) (DqAll.cons (Dq.int _) DqAll.nil))) (fun p H Ho e z d73 => ?_)
      replace d_kinds_ := D.mo d_kinds_ e
      replace d_spring_ := OH.mo d_spring_ e
      replace d_web_ := OL.mo d_web_ e
      have es74 := es72.trans e
      refine y_nil ?_
      replace z : Zs (g_web_ ++ (g_spring_ ++ amb)) _ _ := z.go [g_spring_, g_web_] amb [1, 0]
      refine g_app z d_web_ d73 hw (fun web_ g_web_ H z d_web_ hw => ?_)
      exact (run_ret hw) _ _ _ es74 ⟨_, _, _, _, _, rfl, z, d_spring_, d_web_⟩
    intro s σ H Ho e hI hw
    obtain ⟨spring_, web_⟩ := s
    obtain ⟨g_spring_, g_web_, y_at_, y_hand_, y_kind_, rfl, z, d_spring_, d_web_⟩ := hI
    have es75 := es53.trans e
    refine y_ret ?_
    refine y_var rfl ?_
    refine l_fr d_web_ z (fun Ho e z d_web_ => ?_)
    replace d_spring_ := OH.mo d_spring_ e
    have es76 := es75.trans e
    exact (run_ret hw) _ _ _ _ es76 z d_web_ d_spring_
def sp_law_meets (K : PySem.W.Frag) (cl : Nat → Addr) : Sp := fun vs H Q E => ∃ (amb : Grp) (Ho : Hp) (v0 : V) (x0 : (P3 Int Str Int)) (v1 : V) (x1 : (P3 Int Str Int)), vs = [v0, v1] ∧ Zs amb H Ho ∧ Z.D K Ho v0 x0 ∧ Z.D K Ho v1 x1 ∧ (m_law_meets x0 x1).run fun r => ∀ v H' Ho', Same Ho Ho' → Zs amb H' Ho' → Z.D K Ho' v r → Q v H'
abbrev s_law_meets : Stmt := topS 24
theorem sc_law_meets : FnScope ["one", "other"] ["one", "other"] (defScope s_law_meets) := ⟨rfl, rfl, rfl, by decide +kernel, rfl, by decide +kernel, by decide +kernel⟩
theorem ok_law_meets {f : Addr} {fd : FuncData} (F : Fun K "_law_meets" "_law_meets" s_law_meets f fd) :
    FnOk P w K mg base CX0 1 f fd ["one", "other"] (sp_law_meets K cl) := by
  refine F.ok sc_law_meets (fun vs H Q E h => ?_) (fun cdv A outer s H vs Q E hr h => ?_)
  · obtain ⟨amb, Ho, v_one_, one_, v_other_, other_, rfl, _⟩ := h
    rfl
  · obtain ⟨amb, Ho, v_one_, one_, v_other_, other_, rfl, z, d_one_, d_other_, hw⟩ := h
    refine ⟨_, pss_cons (ps_if (PW.pt (pw_or (pt_cmpR (op_eq) (pe_ix (zix_tup (K := K) rfl) (pv 0) (pe_int) (fun _ _ => rfl)) (pe_ix (zix_tup (K := K) rfl) (pv 1) (pe_int) (fun _ _ => rfl)) (nomark _)) (pw_or1 (pt_cmpR (op_ne) (pe_ix (zix_tup (K := K) rfl) (pv 0) (pe_int) (fun _ _ => rfl)) (pe_ix (zix_tup (K := K) rfl) (pv 1) (pe_int) (fun _ _ => rfl)) (nomark _))))) (pss_cons (ps_ret (pe_bl)) (pss_nil)) (pss_nil)) (pss_cons (ps_ret (pe_or (pe_cmpR (op_ne) (pe_ix (zix_tup (K := K) rfl) (pv 0) (pe_int) (fun _ _ => rfl)) (pe_str) (nomark _)) (pe_one (pe_cmpR (op_ne) (pe_ix (zix_tup (K := K) rfl) (pv 1) (pe_int) (fun _ _ => rfl)) (pe_str) (nomark _))))) (pss_nil)), ?_⟩
    refine y_ifS ?_
    refine y_or ?_
    refine y_test ?_
    refine y_op ?_
    refine y_op ?_
    refine y_var rfl ?_
    refine y_c ?_
    refine y_ixT (y := one_.a) d_one_ z ⟨_, rfl, rfl⟩ (fun w d1 => ?_)
    obtain rfl := d_int d1
    refine y_op ?_
    refine y_var rfl ?_
    refine y_c ?_
    refine y_ixT (y := other_.a) d_other_ z ⟨_, rfl, rfl⟩ (fun w d2 => ?_)
    obtain rfl := d_int d2
    refine y_eqi ?_
    refine ⟨_, rfl, ?_⟩
    refine w_orP (!decide (one_.c = other_.c)) (fun hb hq => ?_) ?_
    · refine y_test ?_
      refine y_op ?_
      refine y_op ?_
      refine y_var rfl ?_
      refine y_c ?_
      refine y_ixT (y := one_.c) d_one_ z ⟨_, rfl, rfl⟩ (fun w d3 => ?_)
      obtain rfl := d_int d3
      refine y_op ?_
      refine y_var rfl ?_
      refine y_c ?_
      refine y_ixT (y := other_.c) d_other_ z ⟨_, rfl, rfl⟩ (fun w d4 => ?_)
      obtain rfl := d_int d4
      refine y_nei ?_
      refine ⟨_, rfl, ?_⟩
      exact hq
    refine y_cases hw (fun hb hw => ?_) (fun hb hw => ?_)
    · refine y_ret ?_
      refine y_c ?_
      exact (run_ret hw) _ _ _ (Same.refl _) z (Dq.bl _)
    · refine y_nxS ?_
      refine y_ret ?_
      refine y_orV ?_
      refine y_op ?_
      refine y_op ?_
      refine y_var rfl ?_
      refine y_c ?_
      refine y_ixT (y := one_.b) d_one_ z ⟨_, rfl, rfl⟩ (fun w d5 => ?_)
      obtain rfl := d_str d5
      refine y_c ?_
      refine y_nes ?_
      refine ⟨_, rfl, ?_⟩
      refine w_orPV (!decide (other_.b = ("load" : Str))) (fun hb hq => ?_) ?_
      · refine y_op ?_
        refine y_op ?_
        refine y_var rfl ?_
        refine y_c ?_
        refine y_ixT (y := other_.b) d_other_ z ⟨_, rfl, rfl⟩ (fun w d6 => ?_)
        obtain rfl := d_str d6
        refine y_c ?_
        refine y_nes ?_
        exact hq
      exact (run_ret hw) _ _ _ (Same.refl _) z (Dq.bl _)
def sp_law_step (K : PySem.W.Frag) (cl : Nat → Addr) : Sp := fun vs H Q E => ∃ (amb : Grp) (Ho : Hp) (v0 : V) (x0 : (P3 Int Str Int)) (v1 : V) (x1 : (P3 Int Str Int)), vs = [v0, v1] ∧ Zs amb H Ho ∧ Z.D K Ho v0 x0 ∧ Z.D K Ho v1 x1 ∧ (m_law_step x0 x1).run fun r => ∀ v H' Ho', Same Ho Ho' → Zs amb H' Ho' → Z.D K Ho' v r → Q v H'
abbrev s_law_step : Stmt := topS 25
theorem sc_law_step : FnScope ["one", "other"] ["one", "other"] (defScope s_law_step) := ⟨rfl, rfl, rfl, by decide +kernel, rfl, by decide +kernel, by decide +kernel⟩
theorem ok_law_step {f : Addr} {fd : FuncData} (F : Fun K "_law_step" "_law_step" s_law_step f fd) {f_law_meets : Addr} {fd_law_meets : FuncData} (c_law_meets : Cal P w K mg base CX0 "_law_meets" ["one", "other"] 1 (sp_law_meets K cl) f_law_meets fd_law_meets) :
    FnOk P w K mg base CX0 2 f fd ["one", "other"] (sp_law_step K cl) := by
  refine F.ok sc_law_step (fun vs H Q E h => ?_) (fun cdv A outer s H vs Q E hr h => ?_)
  · obtain ⟨amb, Ho, v_one_, one_, v_other_, other_, rfl, _⟩ := h
    rfl
  · obtain ⟨amb, Ho, v_one_, one_, v_other_, other_, rfl, z, d_one_, d_other_, hw⟩ := h
    refine ⟨_, pss_cons (ps_ret (pe_or (pe_cmpR (op_eq) (pe_ix (zix_tup (K := K) rfl) (pv 0) (pe_int) (fun _ _ => rfl)) (pe_ix (zix_tup (K := K) rfl) (pv 1) (pe_int) (fun _ _ => rfl)) (nomark _)) (pe_one (pe_call c_law_meets.ok (hr.mono (by decide)) (by rfl) c_law_meets.g c_law_meets.kp c_law_meets.b .nil pass0 (pa_cons (pv 0) (pa_cons (pv 1) (pa_nil))))))) (pss_nil), ?_⟩
    refine y_ret ?_
    refine y_orV ?_
    refine y_op ?_
    refine y_op ?_
    refine y_var rfl ?_
    refine y_c ?_
    refine y_ixT (y := one_.a) d_one_ z ⟨_, rfl, rfl⟩ (fun w d1 => ?_)
    obtain rfl := d_int d1
    refine y_op ?_
    refine y_var rfl ?_
    refine y_c ?_
    refine y_ixT (y := other_.a) d_other_ z ⟨_, rfl, rfl⟩ (fun w d2 => ?_)
    obtain rfl := d_int d2
    refine y_eqi ?_
    refine ⟨_, rfl, ?_⟩
    refine w_orVJ hw (fun (s : Bool) (v : V) (H2 : Hp) => ∃ (Ho2 : Hp), Same Ho Ho2 ∧ Zs amb H2 Ho2 ∧ v = V.bl s) (fun hb hw => ?_) (fun hb hw => ?_) ?_
    · exact (run_ret hw) _ _ ⟨_, (Same.refl _), z, rfl⟩
    · refine y_call ?_
      refine y_cons ?_
      refine y_var rfl ?_
      refine y_cons ?_
      refine y_var rfl ?_
      refine y_nil ?_
      refine ⟨amb, _, _, _, _, _, rfl, z, d_one_, d_other_, ?_⟩
      refine run_mono' (run_b hw) (fun t3 hw v H Ho e z d4 => ?_)
      replace d_one_ := D.mo d_one_ e
      replace d_other_ := D.mo d_other_ e
      have es6 := (Same.refl _).trans e
      obtain rfl := d_bool d4
      exact (run_ret hw) _ _ ⟨_, es6, z, rfl⟩
    rintro t7 v H ⟨Ho, e, z, rfl⟩ hw
    replace d_one_ := D.mo d_one_ e
    replace d_other_ := D.mo d_other_ e
    have es9 := (Same.refl _).trans e
    exact (run_ret hw) _ _ _ es9 z (Dq.bl _)
def sp_law_free_order (K : PySem.W.Frag) (cl : Nat → Addr) : Sp := fun vs H Q E => ∃ (amb : Grp) (Ho : Hp) (v0 : V) (x0 : (H3 Int Int Int)) (g0 : Grp) (v1 : V) (x1 : (List (P3 Int Str Int))), vs = [v0, v1] ∧ Zs (g0 ++ amb) H Ho ∧ OH K Ho v0 x0 g0 ∧ LV K amb Ho v1 x1 ∧ (m_law_free_order x0 x1).run fun r => ∀ v h0 H' Ho', Same Ho Ho' → Zs (h0 ++ amb) H' Ho' → Z.D K Ho' v r.1 → OH K Ho' v0 r.2 h0 → Q v H'
abbrev s_law_free_order : Stmt := topS 26
theorem sc_law_free_order : FnScope ["spring", "web", "waits", "i", "j", "free", "order", "again"] ["spring", "web"] (defScope s_law_free_order) := ⟨rfl, rfl, rfl, by decide +kernel, rfl, by decide +kernel, by decide +kernel⟩
theorem ok_law_free_order {f : Addr} {fd : FuncData} (F : Fun K "_law_free_order" "_law_free_order" s_law_free_order f fd) {f_law_step : Addr} {fd_law_step : FuncData} (c_law_step : Cal P w K mg base CX0 "_law_step" ["one", "other"] 2 (sp_law_step K cl) f_law_step fd_law_step) {f_law_draw : Addr} {fd_law_draw : FuncData} (c_law_draw : Cal P w K mg base CX0 "_law_draw" ["spring", "many"] 1 (sp_law_draw K cl) f_law_draw fd_law_draw) (m_len : mg "len" = none) (m_range : mg "range" = none) :
    FnOk P w K mg base CX0 3 f fd ["spring", "web"] (sp_law_free_order K cl) := by
  refine F.ok sc_law_free_order (fun vs H Q E h => ?_) (fun cdv A outer s H vs Q E hr h => ?_)
  · obtain ⟨amb, Ho, v_spring_, spring_, g_spring_, v_web_, web_, rfl, _⟩ := h
    rfl
  · obtain ⟨amb, Ho, v_spring_, spring_, g_spring_, v_web_, web_, rfl, z, d_spring_, d_web_, hw⟩ := h
    refine ⟨_, pss_cons (ps_set (i := 2) sc_law_free_order.nd rfl (Or.inr rfl) (pe_lc (own := [("j", 4)]) rfl sc_law_free_order.nd (pi_range1 (by rfl) m_range (pa_cons (pe_callB (zlen (K := K) rfl) (by rfl) m_len (by decide +kernel) (pa_cons (pv 1) (pa_nil))) (pa_nil))) (blkOk_by (N := ["spring", "web", "waits", "i", "j", "free", "order", "again"]) (sc := defScope s_law_free_order) (by decide +kernel)) (fun _ _ _ _ _ => pg_name (i := 4) sc_law_free_order.nd rfl (Or.inr rfl)) (fun _ _ _ _ _ => pts_nil) (fun _ _ _ _ _ => pe_callB (zlen (K := K) rfl) (by rfl) m_len (by decide +kernel) (pa_cons (pe_lc (own := [("i", 3)]) rfl sc_law_free_order.nd (pi_range1 (by rfl) m_range (pa_cons (pv 4) (pa_nil))) (blkOk_by (N := ["spring", "web", "waits", "i", "j", "free", "order", "again"]) (sc := ({ kind := PySem.ScopeKind.function, names := [ (PySem.Str.ofString ".0", PySem.NameKind.local), (PySem.Str.ofString "j", PySem.NameKind.cell), (PySem.Str.ofString "len", PySem.NameKind.globalImplicit), (PySem.Str.ofString "range", PySem.NameKind.globalImplicit), (PySem.Str.ofString "web", PySem.NameKind.cell)], isGenerator := false, isCoroutine := false, more := [] : PySem.Scope })) (by decide +kernel)) (fun _ _ _ _ _ => pg_name (i := 3) sc_law_free_order.nd rfl (Or.inl rfl)) (fun _ _ _ _ _ => pts_one (pt_val (pe_call c_law_step.ok (hr.mono (by decide)) (by rfl) c_law_step.g c_law_step.kp c_law_step.b .nil pass0 (pa_cons (pe_ix (zix_list (K := K) rfl) (pv 1) (pv 3) (fun _ _ => rfl)) (pa_cons (pe_ix (zix_list (K := K) rfl) (pv 1) (pv 4) (fun _ _ => rfl)) (pa_nil)))))) (fun _ _ _ _ _ => pv 3)) (pa_nil))))) (pss_cons (ps_setLc (i := 5) (own := [("j", 4)]) rfl sc_law_free_order.nd rfl rfl (sw_true rfl rfl rfl (by decide +kernel)) (pi_range1 (by rfl) m_range (pa_cons (pe_callB (zlen (K := K) rfl) (by rfl) m_len (by decide +kernel) (pa_cons (pv 1) (pa_nil))) (pa_nil))) (blkOk_by (N := ["spring", "web", "waits", "i", "j", "free", "order", "again"]) (sc := defScope s_law_free_order) (by decide +kernel)) (fun _ _ _ _ _ => pg_name (i := 4) sc_law_free_order.nd rfl (Or.inl rfl)) (fun _ _ _ _ _ => pts_one (pt_cmpR (op_eq) (pe_ix (zix_list (K := K) rfl) (pv 2) (pv 4) (fun _ _ => rfl)) (pe_int) (nomark _))) (fun _ _ _ _ _ => pv 4)) (pss_cons (ps_set (i := 6) sc_law_free_order.nd rfl (Or.inl rfl) (pe_lst (pa_nil))) (pss_cons (ps_for PassesOwn.never rfl (pi_range1 (by rfl) m_range (pa_cons (pe_callB (zlen (K := K) rfl) (by rfl) m_len (by decide +kernel) (pa_cons (pv 1) (pa_nil))) (pa_nil))) (pg_name (i := 7) sc_law_free_order.nd rfl (Or.inl rfl)) (pss_cons (ps_set (i := 3) sc_law_free_order.nd rfl (Or.inl rfl) (pe_bm PySem.F.plainAttrs_list PySem.F.slot_list_pop PySem.F.type_list_pop mt_popAt (pv 5) (pa_cons (pe_call c_law_draw.ok (hr.mono (by decide)) (by rfl) c_law_draw.g c_law_draw.kp c_law_draw.b .nil pass0 (pa_cons (pv 0) (pa_cons (pe_callB (zlen (K := K) rfl) (by rfl) m_len (by decide +kernel) (pa_cons (pv 5) (pa_nil))) (pa_nil)))) (pa_nil)))) (pss_cons (ps_expr (pe_bm PySem.F.plainAttrs_list PySem.F.slot_list_append PySem.F.type_list_append mt_append (pv 6) (pa_cons (pv 3) (pa_nil)))) (pss_cons (ps_for PassesOwn.never rfl (pi_range2 (by rfl) m_range (pa_cons (pe_op op_add (pv 3) (pe_int)) (pa_cons (pe_callB (zlen (K := K) rfl) (by rfl) m_len (by decide +kernel) (pa_cons (pv 1) (pa_nil))) (pa_nil)))) (pg_name (i := 4) sc_law_free_order.nd rfl (Or.inl rfl)) (pss_cons (ps_if (pt_val (pe_call c_law_step.ok (hr.mono (by decide)) (by rfl) c_law_step.g c_law_step.kp c_law_step.b .nil pass0 (pa_cons (pe_ix (zix_list (K := K) rfl) (pv 1) (pv 3) (fun _ _ => rfl)) (pa_cons (pe_ix (zix_list (K := K) rfl) (pv 1) (pv 4) (fun _ _ => rfl)) (pa_nil))))) (pss_cons (ps_asg (pe_op op_sub (pe_ix (zix_list (K := K) rfl) (pv 2) (pv 4) (fun _ _ => rfl)) (pe_int)) (pg_sub (pv 2) (pv 4) set_list)) (pss_cons (ps_if (pt_cmpR (op_eq) (pe_ix (zix_list (K := K) rfl) (pv 2) (pv 4) (fun _ _ => rfl)) (pe_int) (nomark _)) (pss_cons (ps_expr (pe_bm PySem.F.plainAttrs_list PySem.F.slot_list_append PySem.F.type_list_append mt_append (pv 5) (pa_cons (pv 4) (pa_nil)))) (pss_nil)) (pss_nil)) (pss_nil))) (pss_nil)) (pss_nil))) (pss_nil))))) (pss_cons (ps_ret (pv 6)) (pss_nil))))), ?_⟩
    refine l_asg (fun v => [_, _, some v, _, _, _, _, _]) (fun _ => rfl) ?_
    refine y_lc ?_
    refine k_iR1 ?_
    refine y_cons ?_
    refine y_cb ?_
    refine y_cons ?_
    refine y_var rfl ?_
    refine y_nil ?_
    refine y_len (LV.sub d_web_ (mgS mgE)) z ?_
    refine y_nil ?_
    refine k_srcR1 (K := K) (Ho := Ho) hw.1 (fun J T => ?_)
    replace hw := (run_gd hw).2
    refine y_lcG z mgN T hw (fun r1 j_ v_j_ H Ho N N' e z d_j_ hw => ?_) (fun t22 H Ho e hw p19 ws20 z d21 => ?_)
    · replace z : Zs ([r1] ++ (g_spring_ ++ amb)) H Ho := z
      replace d_spring_ := OH.mo d_spring_ e
      replace d_web_ := LV.mo d_web_ e
      have es2 := (Same.refl _).trans e
      obtain rfl := d_int d_j_
      refine y_gname (σ' := [some v_spring_, some v_web_, none, none, some (V.int j_), none, none, none]) rfl ?_
      refine ⟨rfl, ?_⟩
      refine y_yes (w_t ?_)
      replace hw := run_itT (run_bret hw) rfl
      refine y_cb ?_
      refine y_cons ?_
      refine y_lc ?_
      refine k_iR1 ?_
      refine y_cons ?_
      refine y_var rfl ?_
      refine y_nil ?_
      refine k_srcR1 (K := K) (Ho := Ho) hw.1 (fun J T => ?_)
      replace hw := (run_gd hw).2
      refine y_lcG z mgN T hw (fun r3 i_ v_i_ H Ho N N' e z d_i_ hw => ?_) (fun t16 H Ho e hw p13 ws14 z d15 => ?_)
      · replace z : Zs ([r3] ++ ([r1] ++ (g_spring_ ++ amb))) H Ho := z
        replace d_spring_ := OH.mo d_spring_ e
        replace d_web_ := LV.mo d_web_ e
        have es4 := (Same.refl _).trans e
        obtain rfl := d_int d_i_
        refine y_gname (σ' := [some v_spring_, some v_web_, none, some (V.int i_), some (V.int j_), none, none, none]) rfl ?_
        refine ⟨rfl, ?_⟩
        refine y_tB ?_
        refine y_call ?_
        refine y_cons ?_
        refine y_op ?_
        refine y_var rfl ?_
        refine y_var rfl ?_
        refine y_ixL (LV.sub d_web_ (mgS (mgS (mgS mgE)))) z hw (fun t5 w d6 hw => ?_)
        refine y_cons ?_
        refine y_op ?_
        refine y_var rfl ?_
        refine y_var rfl ?_
        refine y_ixL (LV.sub d_web_ (mgS (mgS (mgS mgE)))) z hw (fun t7 w d8 hw => ?_)
        refine y_nil ?_
        refine ⟨([r3] ++ ([r1] ++ (g_spring_ ++ amb))), _, _, _, _, _, rfl, z, d6, d8, ?_⟩
        refine run_mono' (run_b hw) (fun t9 hw v H Ho e z d10 => ?_)
        replace d_spring_ := OH.mo d_spring_ e
        replace d_web_ := LV.mo d_web_ e
        have es12 := (Same.refl _).trans e
        obtain rfl := d_bool d10
        refine ⟨_, rfl, ?_⟩
        refine w_two (fun hb => ?_) (fun hb => ?_)
        · replace hw := run_itT (run_ret hw) hb
          refine y_var rfl ?_
          exact (run_ret hw) _ _ _ es12 z (Dq.int _)
        · exact run_itF (run_ret hw) hb _ _ es12 z
      replace d_spring_ := OH.mo d_spring_ e
      replace d_web_ := LV.mo d_web_ e
      have es17 := (Same.refl _).trans e
      replace z : Zs ([(p13, HO.lst ws14)] ++ ([r1] ++ (g_spring_ ++ amb))) H Ho := z
      have o18 := OL.mk (p := p13) d15
      refine y_nil ?_
      refine y_len (OL.lv o18 mg0) z ?_
      replace z : Zs ([r1] ++ (g_spring_ ++ amb)) _ _ := z.go [[(p13, HO.lst ws14)], [r1], g_spring_] amb [1, 2]
      exact (run_ret hw) _ _ _ es17 z (Dq.int _)
    replace d_spring_ := OH.mo d_spring_ e
    replace d_web_ := LV.mo d_web_ e
    have es23 := (Same.refl _).trans e
    replace z : Zs ([(p19, HO.lst ws20)] ++ (g_spring_ ++ amb)) H Ho := z
    have o24 := OL.mk (p := p19) d21
    refine l_o hw z o24 (fun waits_ v_waits_ g_waits_ z d_waits_ hw => ?_)
    refine l_asg (fun v => [_, _, _, _, _, some v, _, _]) (fun _ => rfl) ?_
    refine y_lc ?_
    refine k_iR1 ?_
    refine y_cons ?_
    refine y_cb ?_
    refine y_cons ?_
    refine y_var rfl ?_
    refine y_nil ?_
    refine y_len (LV.sub d_web_ (mgS (mgS mgE))) z ?_
    refine y_nil ?_
    refine k_srcR1 (K := K) (Ho := Ho) hw.1 (fun J T => ?_)
    replace hw := (run_gd hw).2
    refine y_lcG z mgN T hw (fun r25 j_ v_j_ H Ho N N' e z d_j_ hw => ?_) (fun t32 H Ho e hw p29 ws30 z d31 => ?_)
    · replace z : Zs ([r25] ++ (g_waits_ ++ (g_spring_ ++ amb))) H Ho := z
      replace d_spring_ := OH.mo d_spring_ e
      replace d_waits_ := OL.mo d_waits_ e
      replace d_web_ := LV.mo d_web_ e
      have es26 := es23.trans e
      obtain rfl := d_int d_j_
      refine y_gname (σ' := [some v_spring_, some v_web_, some v_waits_, none, some (V.int j_), none, none, none]) rfl ?_
      refine ⟨rfl, ?_⟩
      refine y_test ?_
      refine y_op ?_
      refine y_op ?_
      refine y_var rfl ?_
      refine y_var rfl ?_
      refine y_ixL (OL.lv d_waits_ (mgS mg0)) z hw (fun t27 w d28 hw => ?_)
      obtain rfl := d_int d28
      refine y_c ?_
      refine y_eqi ?_
      refine ⟨_, rfl, ?_⟩
      refine w_two (fun hb => ?_) (fun hb => ?_)
      · replace hw := run_itT (run_ret hw) hb
        refine y_var rfl ?_
        exact (run_ret hw) _ _ _ (Same.refl _) z (Dq.int _)
      · exact run_itF (run_ret hw) hb _ _ (Same.refl _) z
    replace d_spring_ := OH.mo d_spring_ e
    replace d_waits_ := OL.mo d_waits_ e
    replace d_web_ := LV.mo d_web_ e
    have es33 := es23.trans e
    replace z : Zs ([(p29, HO.lst ws30)] ++ (g_waits_ ++ (g_spring_ ++ amb))) H Ho := z
    have o34 := OL.mk (p := p29) d31
    refine l_o hw z o34 (fun free_ v_free_ g_free_ z d_free_ hw => ?_)
    refine l_asg (fun v => [_, _, _, _, _, _, some v, _]) (fun _ => rfl) ?_
    refine k_lst ?_
    refine y_nil ?_
    refine k_lstk (K := K) (xs := ([] : (List Int))) z DqAll.nil (by show 0 ≤ sizeLine; decide) (fun H p35 ws36 z d37 => ?_)
    replace z : Zs ([(p35, HO.lst ws36)] ++ (g_free_ ++ (g_waits_ ++ (g_spring_ ++ amb)))) H Ho := z
    have o38 := OL.mk (p := p35) d37
    refine l_o hw z o38 (fun order_ v_order_ g_order_ z d_order_ hw => ?_)
    refine y_for ?_
    refine k_iR1 ?_
    refine y_cons ?_
    refine y_cb ?_
    refine y_cons ?_
    refine y_var rfl ?_
    refine y_nil ?_
    refine y_len (LV.sub d_web_ (mgS (mgS (mgS (mgS mgE))))) z ?_
    refine y_nil ?_
    refine k_srcR1 (K := K) (Ho := Ho) hw.1 (fun J T => ?_)
    replace hw := (run_gd hw).2
    refine y_forL T hw (fun (s : (H3 Int Int Int) × (List Int) × (List Int) × (List Int)) (σ : L2.St) (H Ho : Hp) => ∃ (g_spring_ : Grp) (g_waits_ : Grp) (g_free_ : Grp) (g_order_ : Grp) (y_i_ : Option V) (y_j_ : Option V) (y_again_ : Option V), σ = [some v_spring_, some v_web_, some v_waits_, y_i_, y_j_, some v_free_, some v_order_, y_again_] ∧ Zs (g_order_ ++ (g_free_ ++ (g_waits_ ++ (g_spring_ ++ amb)))) H Ho ∧ OH K Ho v_spring_ s.1 g_spring_ ∧ OL K Ho v_waits_ s.2.1 g_waits_ ∧ OL K Ho v_free_ s.2.2.1 g_free_ ∧ OL K Ho v_order_ s.2.2.2 g_order_) ⟨_, _, _, _, _, _, _, rfl, z, d_spring_, d_waits_, d_free_, d_order_⟩ ?_ ?_ ?_ ?_
    · intro s σ H Ho hI
      obtain ⟨spring_, waits_, free_, order_⟩ := s
      obtain ⟨g_spring_, g_waits_, g_free_, g_order_, y_i_, y_j_, y_again_, rfl, z, d_spring_, d_waits_, d_free_, d_order_⟩ := hI
      exact ⟨_, z, mgN⟩
    · intro s σ H Ho H2 Ho2 hI e t
      obtain ⟨spring_, waits_, free_, order_⟩ := s
      obtain ⟨g_spring_, g_waits_, g_free_, g_order_, y_i_, y_j_, y_again_, rfl, z, d_spring_, d_waits_, d_free_, d_order_⟩ := hI
      exact ⟨_, _, _, _, _, _, _, rfl, t _ z, OH.mo d_spring_ e, OL.mo d_waits_ e, OL.mo d_free_ e, OL.mo d_order_ e⟩
    · intro again_ v_again_ s σ H Ho N e hI d_again_ hw
      obtain ⟨spring_, waits_, free_, order_⟩ := s
      obtain ⟨g_spring_, g_waits_, g_free_, g_order_, y_i_, y_j_, y_again_, rfl, z, d_spring_, d_waits_, d_free_, d_order_⟩ := hI
      replace d_web_ := LV.mo d_web_ e
      have es39 := es33.trans e
      obtain rfl := d_int d_again_
      refine y_gname (σ' := [some v_spring_, some v_web_, some v_waits_, y_i_, y_j_, some v_free_, some v_order_, some (V.int again_)]) rfl ?_
      refine l_asg (fun v => [_, _, _, some v, _, _, _, _]) (fun _ => rfl) ?_
      refine y_bm ?_
      refine y_var rfl ?_
      refine g_tyL (OL.lv d_free_ (mgS mg0)) z ?_
      refine y_cons ?_
      refine y_call ?_
      refine y_cons ?_
      refine y_var rfl ?_
      refine y_cons ?_
      refine y_cb ?_
      refine y_cons ?_
      refine y_var rfl ?_
      refine y_nil ?_
      refine y_len (OL.lv d_free_ (mgS mg0)) z ?_
      refine y_nil ?_
      replace z : Zs (g_spring_ ++ (g_order_ ++ (g_free_ ++ (g_waits_ ++ amb)))) _ _ := z.go [g_order_, g_free_, g_waits_, g_spring_] amb [3, 0, 1, 2]
      refine ⟨(g_order_ ++ (g_free_ ++ (g_waits_ ++ amb))), _, _, _, _, _, _, rfl, z, d_spring_, (Dq.int _), ?_⟩
      refine run_mono2 hw (fun t40 spring_ hw v g_spring_ H Ho e z d41 d_spring_ => ?_)
      replace d41 : Z.D K Ho v t40 := d41
      replace d_spring_ : OH K Ho v_spring_ spring_ g_spring_ := d_spring_
      replace d_free_ := OL.mo d_free_ e
      replace d_order_ := OL.mo d_order_ e
      replace d_waits_ := OL.mo d_waits_ e
      replace d_web_ := LV.mo d_web_ e
      have es43 := (Same.refl _).trans e
      obtain rfl := d_int d41
      refine y_nil ?_
      replace z : Zs (g_free_ ++ (g_spring_ ++ (g_order_ ++ (g_waits_ ++ amb)))) _ _ := z.go [g_spring_, g_order_, g_free_, g_waits_] amb [2, 0, 1, 3]
      refine g_popI z d_free_ hw (fun t44 free_ w g_free_ H z d_free_ d45 hw => ?_)
      obtain rfl := d_int d45
      refine l_i hw (fun i_ hw => ?_)
      refine y_drop ?_
      refine y_bm ?_
      refine y_var rfl ?_
      refine g_tyL (OL.lv d_order_ (mgS (mgS mg0))) z ?_
      refine y_cons ?_
      refine y_var rfl ?_
      refine y_nil ?_
      replace z : Zs (g_order_ ++ (g_free_ ++ (g_spring_ ++ (g_waits_ ++ amb)))) _ _ := z.go [g_free_, g_spring_, g_order_, g_waits_] amb [2, 0, 1, 3]
      refine g_app z d_order_ (Dq.int _) hw (fun order_ g_order_ H z d_order_ hw => ?_)
      refine y_for ?_
      refine k_iR2 ?_
      refine y_cons ?_
      refine y_op ?_
      refine y_var rfl ?_
      refine y_c ?_
      refine y_i0 ?_
      refine y_cons ?_
      refine y_cb ?_
      refine y_cons ?_
      refine y_var rfl ?_
      refine y_nil ?_
      refine y_len (LV.sub d_web_ (mgS (mgS (mgS (mgS mgE))))) z ?_
      refine y_nil ?_
      refine k_srcR2 (K := K) (Ho := Ho) hw.1 (fun J T => ?_)
      replace hw := (run_gd hw).2
      refine y_forL T hw (fun (s : (List Int) × (List Int)) (σ : L2.St) (H Ho : Hp) => ∃ (g_waits_ : Grp) (g_free_ : Grp) (y_j_ : Option V), σ = [some v_spring_, some v_web_, some v_waits_, some (V.int i_), y_j_, some v_free_, some v_order_, some (V.int again_)] ∧ Zs (g_order_ ++ (g_free_ ++ (g_spring_ ++ (g_waits_ ++ amb)))) H Ho ∧ OL K Ho v_waits_ s.1 g_waits_ ∧ OL K Ho v_free_ s.2 g_free_) ⟨_, _, _, rfl, z, d_waits_, d_free_⟩ ?_ ?_ ?_ ?_
      · intro s σ H Ho hI
        obtain ⟨waits_, free_⟩ := s
        obtain ⟨g_waits_, g_free_, y_j_, rfl, z, d_waits_, d_free_⟩ := hI
        exact ⟨_, z, mgN⟩
      · intro s σ H Ho H2 Ho2 hI e t
        obtain ⟨waits_, free_⟩ := s
        obtain ⟨g_waits_, g_free_, y_j_, rfl, z, d_waits_, d_free_⟩ := hI
        exact ⟨_, _, _, rfl, t _ z, OL.mo d_waits_ e, OL.mo d_free_ e⟩
      · intro j_ v_j_ s σ H Ho N e hI d_j_ hw
        obtain ⟨waits_, free_⟩ := s
        obtain ⟨g_waits_, g_free_, y_j_, rfl, z, d_waits_, d_free_⟩ := hI
        replace d_order_ := OL.mo d_order_ e
        replace d_spring_ := OH.mo d_spring_ e
        replace d_web_ := LV.mo d_web_ e
        have es46 := es43.trans e
        obtain rfl := d_int d_j_
        refine y_gname (σ' := [some v_spring_, some v_web_, some v_waits_, some (V.int i_), some (V.int j_), some v_free_, some v_order_, some (V.int again_)]) rfl ?_
        refine y_ifS ?_
        refine y_tB ?_
        refine y_call ?_
        refine y_cons ?_
        refine y_op ?_
        refine y_var rfl ?_
        refine y_var rfl ?_
        refine y_ixL (LV.sub d_web_ (mgS (mgS (mgS (mgS mgE))))) z hw (fun t47 w d48 hw => ?_)
        refine y_cons ?_
        refine y_op ?_
        refine y_var rfl ?_
        refine y_var rfl ?_
        refine y_ixL (LV.sub d_web_ (mgS (mgS (mgS (mgS mgE))))) z hw (fun t49 w d50 hw => ?_)
        refine y_nil ?_
        refine ⟨(g_order_ ++ (g_free_ ++ (g_spring_ ++ (g_waits_ ++ amb)))), _, _, _, _, _, rfl, z, d48, d50, ?_⟩
        refine run_mono' (run_b hw) (fun t51 hw v H Ho e z d52 => ?_)
        replace d_free_ := OL.mo d_free_ e
        replace d_order_ := OL.mo d_order_ e
        replace d_spring_ := OH.mo d_spring_ e
        replace d_waits_ := OL.mo d_waits_ e
        replace d_web_ := LV.mo d_web_ e
        have es54 := (Same.refl _).trans e
        obtain rfl := d_bool d52
        refine ⟨_, rfl, ?_⟩
        refine w_ifJ hw (fun (s : (List Int) × (List Int)) (σ : L2.St) (H : Hp) => ∃ Ho2, Same Ho Ho2 ∧ (fun (s : (List Int) × (List Int)) (σ : L2.St) (H Ho : Hp) => ∃ (g_waits_ : Grp) (g_free_ : Grp), σ = [some v_spring_, some v_web_, some v_waits_, some (V.int i_), some (V.int j_), some v_free_, some v_order_, some (V.int again_)] ∧ Zs (g_order_ ++ (g_free_ ++ (g_spring_ ++ (g_waits_ ++ amb)))) H Ho ∧ OL K Ho v_waits_ s.1 g_waits_ ∧ OL K Ho v_free_ s.2 g_free_) s σ H Ho2) (fun hb hw => ?_) (fun hb hw => ?_) ?_
        · refine y_asgG ?_
          refine y_op ?_
          refine y_op ?_
          refine y_var rfl ?_
          refine y_var rfl ?_
          refine y_ixL (OL.lv d_waits_ (mgS (mgS (mgS mg0)))) z hw (fun t55 w d56 hw => ?_)
          obtain rfl := d_int d56
          refine y_c ?_
          refine y_i0 ?_
          refine y_gsub ?_
          refine y_var rfl ?_
          refine y_var rfl ?_
          replace z : Zs (g_waits_ ++ (g_order_ ++ (g_free_ ++ (g_spring_ ++ amb)))) _ _ := z.go [g_order_, g_free_, g_spring_, g_waits_] amb [3, 0, 1, 2]
          refine g_sti z d_waits_ (Dq.int _) hw (fun waits_ g_waits_ H z d_waits_ hw => ?_)
          refine y_ifS ?_
          refine y_test ?_
          refine y_op ?_
          refine y_op ?_
          refine y_var rfl ?_
          refine y_var rfl ?_
          refine y_ixL (OL.lv d_waits_ mg0) z hw (fun t57 w d58 hw => ?_)
          obtain rfl := d_int d58
          refine y_c ?_
          refine y_eqi ?_
          refine ⟨_, rfl, ?_⟩
          refine w_ifJ hw (fun (s : (List Int)) (σ : L2.St) (H : Hp) => ∃ Ho2, Same Ho Ho2 ∧ (fun (s : (List Int)) (σ : L2.St) (H Ho : Hp) => ∃ (g_free_ : Grp), σ = [some v_spring_, some v_web_, some v_waits_, some (V.int i_), some (V.int j_), some v_free_, some v_order_, some (V.int again_)] ∧ Zs (g_waits_ ++ (g_order_ ++ (g_free_ ++ (g_spring_ ++ amb)))) H Ho ∧ OL K Ho v_free_ s g_free_) s σ H Ho2) (fun hb hw => ?_) (fun hb hw => ?_) ?_
          · refine y_drop ?_
            refine y_bm ?_
            refine y_var rfl ?_
            refine g_tyL (OL.lv d_free_ (mgS (mgS mg0))) z ?_
            refine y_cons ?_
            refine y_var rfl ?_
            refine y_nil ?_
            replace z : Zs (g_free_ ++ (g_waits_ ++ (g_order_ ++ (g_spring_ ++ amb)))) _ _ := z.go [g_waits_, g_order_, g_free_, g_spring_] amb [2, 0, 1, 3]
            refine g_app z d_free_ (Dq.int _) hw (fun free_ g_free_ H z d_free_ hw => ?_)
            replace z : Zs (g_waits_ ++ (g_order_ ++ (g_free_ ++ (g_spring_ ++ amb)))) _ _ := z.go [g_free_, g_waits_, g_order_, g_spring_] amb [1, 2, 0, 3]
            exact (run_ret hw) _ _ ⟨_, (Same.refl _), ⟨_, rfl, z, d_free_⟩⟩
          · refine y_nxS ?_
            exact (run_ret hw) _ _ ⟨_, (Same.refl _), ⟨_, rfl, z, d_free_⟩⟩
          rintro free_ σ H ⟨Ho, e, g_free_, rfl, z, d_free_⟩ hw
          replace d_order_ := OL.mo d_order_ e
          replace d_spring_ := OH.mo d_spring_ e
          replace d_waits_ := OL.mo d_waits_ e
          replace d_web_ := LV.mo d_web_ e
          have es59 := (Same.refl _).trans e
          replace z : Zs (g_order_ ++ (g_free_ ++ (g_spring_ ++ (g_waits_ ++ amb)))) _ _ := z.go [g_waits_, g_order_, g_free_, g_spring_] amb [1, 2, 3, 0]
          exact (run_ret hw) _ _ ⟨_, es59, ⟨_, _, rfl, z, d_waits_, d_free_⟩⟩
        · refine y_nxS ?_
          exact (run_ret hw) _ _ ⟨_, (Same.refl _), ⟨_, _, rfl, z, d_waits_, d_free_⟩⟩
        rintro ⟨waits_, free_⟩ σ H ⟨Ho, e, g_waits_, g_free_, rfl, z, d_waits_, d_free_⟩ hw
        replace d_order_ := OL.mo d_order_ e
        replace d_spring_ := OH.mo d_spring_ e
        replace d_web_ := LV.mo d_web_ e
        have es60 := es54.trans e
        exact (run_ret hw) _ _ _ es60 ⟨_, _, _, rfl, z, d_waits_, d_free_⟩
      intro s σ H Ho e hI hw
      obtain ⟨waits_, free_⟩ := s
      obtain ⟨g_waits_, g_free_, y_j_, rfl, z, d_waits_, d_free_⟩ := hI
      replace d_order_ := OL.mo d_order_ e
      replace d_spring_ := OH.mo d_spring_ e
      replace d_web_ := LV.mo d_web_ e
      have es61 := es43.trans e
      replace z : Zs (g_order_ ++ (g_free_ ++ (g_waits_ ++ (g_spring_ ++ amb)))) _ _ := z.go [g_order_, g_free_, g_spring_, g_waits_] amb [0, 1, 3, 2]
      exact (run_ret hw) _ _ _ es61 ⟨_, _, _, _, _, _, _, rfl, z, d_spring_, d_waits_, d_free_, d_order_⟩
    intro s σ H Ho e hI hw
    obtain ⟨spring_, waits_, free_, order_⟩ := s
    obtain ⟨g_spring_, g_waits_, g_free_, g_order_, y_i_, y_j_, y_again_, rfl, z, d_spring_, d_waits_, d_free_, d_order_⟩ := hI
    have es62 := es33.trans e
    refine y_ret ?_
    refine y_var rfl ?_
    refine l_fr d_order_ z (fun Ho e z d_order_ => ?_)
    replace d_free_ := OL.mo d_free_ e
    replace d_spring_ := OH.mo d_spring_ e
    replace d_waits_ := OL.mo d_waits_ e
    have es63 := es62.trans e
    replace z : Zs (g_spring_ ++ amb) _ _ := z.go [g_free_, g_waits_, g_spring_] amb [2]
    exact (run_ret hw) _ _ _ _ es63 z d_order_ d_spring_
def sp_law_dealt (K : PySem.W.Frag) (cl : Nat → Addr) : Sp := fun vs H Q E => ∃ (amb : Grp) (Ho : Hp) (v0 : V) (x0 : (H3 Int Int Int)) (g0 : Grp) (v1 : V) (x1 : (List Int)), vs = [v0, v1] ∧ Zs (g0 ++ amb) H Ho ∧ OH K Ho v0 x0 g0 ∧ Z.D K Ho v1 x1 ∧ (m_law_dealt x0 x1).run fun r => ∀ v h0 H' Ho', Same Ho Ho' → Zs (h0 ++ amb) H' Ho' → Z.D K Ho' v r.1 → OH K Ho' v0 r.2 h0 → Q v H'
abbrev s_law_dealt : Stmt := topS 27
theorem sc_law_dealt : FnScope ["spring", "order", "found", "place", "at"] ["spring", "order"] (defScope s_law_dealt) := ⟨rfl, rfl, rfl, by decide +kernel, rfl, by decide +kernel, by decide +kernel⟩
theorem ok_law_dealt {f : Addr} {fd : FuncData} (F : Fun K "_law_dealt" "_law_dealt" s_law_dealt f fd) {f_law_draw : Addr} {fd_law_draw : FuncData} (c_law_draw : Cal P w K mg base CX0 "_law_draw" ["spring", "many"] 1 (sp_law_draw K cl) f_law_draw fd_law_draw) (m_len : mg "len" = none) :
    FnOk P w K mg base CX0 2 f fd ["spring", "order"] (sp_law_dealt K cl) := by
  refine F.ok sc_law_dealt (fun vs H Q E h => ?_) (fun cdv A outer s H vs Q E hr h => ?_)
  · obtain ⟨amb, Ho, v_spring_, spring_, g_spring_, v_order_, order_, rfl, _⟩ := h
    rfl
  · obtain ⟨amb, Ho, v_spring_, spring_, g_spring_, v_order_, order_, rfl, z, d_spring_, d_order_, hw⟩ := h
    refine ⟨_, pss_cons (ps_set (i := 2) sc_law_dealt.nd rfl (Or.inl rfl) (pe_lst (pa_nil))) (pss_cons (ps_for PassesOwn.never rfl (zpi_list (K := K) rfl (pv 1)) (pg_name (i := 3) sc_law_dealt.nd rfl (Or.inl rfl)) (pss_cons (ps_set (i := 4) sc_law_dealt.nd rfl (Or.inl rfl) (pe_call c_law_draw.ok (hr.mono (by decide)) (by rfl) c_law_draw.g c_law_draw.kp c_law_draw.b .nil pass0 (pa_cons (pv 0) (pa_cons (pe_op op_add (pe_callB (zlen (K := K) rfl) (by rfl) m_len (by decide +kernel) (pa_cons (pv 2) (pa_nil))) (pe_int)) (pa_nil))))) (pss_cons (ps_set (i := 2) sc_law_dealt.nd rfl (Or.inl rfl) (pe_op (zop_catS (K := K) rfl) (pe_op (zop_catS (K := K) rfl) (pe_slice (zsl_list (K := K) rfl) (pv 2) po_none (po_some (pv 4))) (pe_lst (pa_cons (pv 3) (pa_nil)))) (pe_slice (zsl_list (K := K) rfl) (pv 2) (po_some (pv 4)) po_none))) (pss_nil)))) (pss_cons (ps_ret (pv 2)) (pss_nil))), ?_⟩
    refine l_asg (fun v => [_, _, some v, _, _]) (fun _ => rfl) ?_
    refine k_lst ?_
    refine y_nil ?_
    refine k_lstk (K := K) (xs := ([] : (List Int))) z DqAll.nil (by show 0 ≤ sizeLine; decide) (fun H p1 ws2 z d3 => ?_)
    replace z : Zs ([(p1, HO.lst ws2)] ++ (g_spring_ ++ amb)) H Ho := z
    have o4 := OL.mk (p := p1) d3
    refine l_fr o4 z (fun Ho e z d5 => ?_)
    replace d_order_ := D.mo d_order_ e
    replace d_spring_ := OH.mo d_spring_ e
    have es6 := (Same.refl _).trans e
    refine l_d (K := K) (Ho := Ho) hw d5 (fun found_ v_found_ d_found_ hw => ?_)
    refine y_for ?_
    refine k_iList ?_
    refine y_var rfl ?_
    refine k_srcL (r0 := ([] : Grp)) (LV.of d_order_) mgN z (fun J T => ?_)
    refine y_forL T hw (fun (s : (H3 Int Int Int) × (List Int)) (σ : L2.St) (H Ho : Hp) => ∃ (g_spring_ : Grp) (v_found_ : V) (y_place_ : Option V) (y_at_ : Option V), σ = [some v_spring_, some v_order_, some v_found_, y_place_, y_at_] ∧ Zs (g_spring_ ++ amb) H Ho ∧ OH K Ho v_spring_ s.1 g_spring_ ∧ Z.D K Ho v_found_ s.2) ⟨_, _, _, _, rfl, z, d_spring_, d_found_⟩ ?_ ?_ ?_ ?_
    · intro s σ H Ho hI
      obtain ⟨spring_, found_⟩ := s
      obtain ⟨g_spring_, v_found_, y_place_, y_at_, rfl, z, d_spring_, d_found_⟩ := hI
      exact ⟨_, z, mgN⟩
    · intro s σ H Ho H2 Ho2 hI e t
      obtain ⟨spring_, found_⟩ := s
      obtain ⟨g_spring_, v_found_, y_place_, y_at_, rfl, z, d_spring_, d_found_⟩ := hI
      exact ⟨_, _, _, _, rfl, t _ z, OH.mo d_spring_ e, D.mo d_found_ e⟩
    · intro place_ v_place_ s σ H Ho N e hI d_place_ hw
      obtain ⟨spring_, found_⟩ := s
      obtain ⟨g_spring_, v_found_, y_place_, y_at_, rfl, z, d_spring_, d_found_⟩ := hI
      have es7 := es6.trans e
      obtain rfl := d_int d_place_
      refine y_gname (σ' := [some v_spring_, some v_order_, some v_found_, some (V.int place_), y_at_]) rfl ?_
      refine l_asg (fun v => [_, _, _, _, some v]) (fun _ => rfl) ?_
      refine y_call ?_
      refine y_cons ?_
      refine y_var rfl ?_
      refine y_cons ?_
      refine y_op ?_
      refine y_cb ?_
      refine y_cons ?_
      refine y_var rfl ?_
      refine y_nil ?_
      refine y_len (LV.of d_found_) z ?_
      refine y_c ?_
      refine y_i0 ?_
      refine y_nil ?_
      refine ⟨amb, _, _, _, _, _, _, rfl, z, d_spring_, (Dq.int _), ?_⟩
      refine run_mono2 hw (fun t8 spring_ hw v g_spring_ H Ho e z d9 d_spring_ => ?_)
      replace d9 : Z.D K Ho v t8 := d9
      replace d_spring_ : OH K Ho v_spring_ spring_ g_spring_ := d_spring_
      replace d_found_ := D.mo d_found_ e
      have es11 := (Same.refl _).trans e
      obtain rfl := d_int d9
      refine l_i hw (fun at_ hw => ?_)
      refine l_asg (fun v => [_, _, some v, _, _]) (fun _ => rfl) ?_
      refine y_op ?_
      refine y_op ?_
      refine y_sl ?_
      refine y_var rfl ?_
      refine y_noPart ?_
      refine y_part ?_
      refine y_var rfl ?_
      refine ⟨_, rfl, ?_⟩
      refine y_slL (LV.of d_found_) z (fun H p12 ws13 z d14 => ?_)
      replace z : Zs ([(p12, HO.lst ws13)] ++ (g_spring_ ++ amb)) H Ho := z
      have o15 := OL.mk (p := p12) d14
      refine k_lst ?_
      refine y_cons ?_
      refine y_var rfl ?_
      refine y_nil ?_
      refine k_lstk (K := K) (xs := ([place_] : (List Int))) z (DqAll.cons (Dq.int _) DqAll.nil) (by show 1 ≤ sizeLine; decide) (fun H p16 ws17 z d18 => ?_)
      replace z : Zs ([(p16, HO.lst ws17)] ++ ([(p12, HO.lst ws13)] ++ (g_spring_ ++ amb))) H Ho := z
      have o19 := OL.mk (p := p16) d18
      refine y_cat (OL.lv o15 (mgS mg0)) (OL.lv o19 mg0) z hw.1 (fun H p20 ws21 z d22 => ?_)
      replace hw := (run_gd hw).2
      replace z : Zs ([(p20, HO.lst ws21)] ++ ([(p16, HO.lst ws17)] ++ ([(p12, HO.lst ws13)] ++ (g_spring_ ++ amb)))) H Ho := z
      have o23 := OL.mk (p := p20) d22
      refine y_sl ?_
      refine y_var rfl ?_
      refine y_part ?_
      refine y_var rfl ?_
      refine ⟨_, rfl, ?_⟩
      refine y_noPart ?_
      refine y_slL (LV.of d_found_) z (fun H p24 ws25 z d26 => ?_)
      replace z : Zs ([(p24, HO.lst ws25)] ++ ([(p20, HO.lst ws21)] ++ ([(p16, HO.lst ws17)] ++ ([(p12, HO.lst ws13)] ++ (g_spring_ ++ amb))))) H Ho := z
      have o27 := OL.mk (p := p24) d26
      refine y_cat (OL.lv o23 (mgS mg0)) (OL.lv o27 mg0) z hw.1 (fun H p28 ws29 z d30 => ?_)
      replace hw := (run_gd hw).2
      replace z : Zs ([(p28, HO.lst ws29)] ++ ([(p24, HO.lst ws25)] ++ ([(p20, HO.lst ws21)] ++ ([(p16, HO.lst ws17)] ++ ([(p12, HO.lst ws13)] ++ (g_spring_ ++ amb)))))) H Ho := z
      have o31 := OL.mk (p := p28) d30
      refine l_fr o31 z (fun Ho e z d32 => ?_)
      replace d_found_ := D.mo d_found_ e
      replace d_spring_ := OH.mo d_spring_ e
      have es33 := es11.trans e
      refine l_d (K := K) (Ho := Ho) hw d32 (fun found_ v_found_ d_found_ hw => ?_)
      replace z : Zs (g_spring_ ++ amb) _ _ := z.go [[(p24, HO.lst ws25)], [(p20, HO.lst ws21)], [(p16, HO.lst ws17)], [(p12, HO.lst ws13)], g_spring_] amb [4]
      exact (run_ret hw) _ _ _ es33 ⟨_, _, _, _, rfl, z, d_spring_, d_found_⟩
    intro s σ H Ho e hI hw
    obtain ⟨spring_, found_⟩ := s
    obtain ⟨g_spring_, v_found_, y_place_, y_at_, rfl, z, d_spring_, d_found_⟩ := hI
    have es34 := es6.trans e
    refine y_ret ?_
    refine y_var rfl ?_
    exact (run_ret hw) _ _ _ _ es34 z d_found_ d_spring_
def sp_law_bent (K : PySem.W.Frag) (cl : Nat → Addr) : Sp := fun vs H Q E => ∃ (amb : Grp) (Ho : Hp) (v0 : V) (x0 : (H3 Int Int Int)) (g0 : Grp) (v1 : V) (x1 : (List Int)) (v2 : V) (x2 : Int), vs = [v0, v1, v2] ∧ Zs (g0 ++ amb) H Ho ∧ OH K Ho v0 x0 g0 ∧ Z.D K Ho v1 x1 ∧ Z.D K Ho v2 x2 ∧ (m_law_bent x0 x1 x2).run fun r => ∀ v h0 H' Ho', Same Ho Ho' → Zs (h0 ++ amb) H' Ho' → Z.D K Ho' v r.1 → OH K Ho' v0 r.2 h0 → Q v H'
abbrev s_law_bent : Stmt := topS 28
theorem sc_law_bent : FnScope ["spring", "order", "kind", "many", "at", "to", "left", "some"] ["spring", "order", "kind"] (defScope s_law_bent) := ⟨rfl, rfl, rfl, by decide +kernel, rfl, by decide +kernel, by decide +kernel⟩
theorem ok_law_bent {f : Addr} {fd : FuncData} (F : Fun K "_law_bent" "_law_bent" s_law_bent f fd) {f_law_draw : Addr} {fd_law_draw : FuncData} (c_law_draw : Cal P w K mg base CX0 "_law_draw" ["spring", "many"] 1 (sp_law_draw K cl) f_law_draw fd_law_draw) {f_law_dealt : Addr} {fd_law_dealt : FuncData} (c_law_dealt : Cal P w K mg base CX0 "_law_dealt" ["spring", "order"] 2 (sp_law_dealt K cl) f_law_dealt fd_law_dealt) (m_len : mg "len" = none) (m_max : mg "max" = none) :
    FnOk P w K mg base CX0 3 f fd ["spring", "order", "kind"] (sp_law_bent K cl) := by
  refine F.ok sc_law_bent (fun vs H Q E h => ?_) (fun cdv A outer s H vs Q E hr h => ?_)
  · obtain ⟨amb, Ho, v_spring_, spring_, g_spring_, v_order_, order_, v_kind_, kind_, rfl, _⟩ := h
    rfl
  · obtain ⟨amb, Ho, v_spring_, spring_, g_spring_, v_order_, order_, v_kind_, kind_, rfl, z, d_spring_, d_order_, d_kind_, hw⟩ := h
    refine ⟨_, pss_cons (ps_set (i := 3) sc_law_bent.nd rfl (Or.inl rfl) (pe_callB (zlen (K := K) rfl) (by rfl) m_len (by decide +kernel) (pa_cons (pv 1) (pa_nil)))) (pss_cons (ps_set (i := 4) sc_law_bent.nd rfl (Or.inl rfl) (pe_call c_law_draw.ok (hr.mono (by decide)) (by rfl) c_law_draw.g c_law_draw.kp c_law_draw.b .nil pass0 (pa_cons (pv 0) (pa_cons (pe_callB (call_max2 rfl) (by rfl) m_max (by decide +kernel) (pa_cons (pe_int) (pa_cons (pv 3) (pa_nil)))) (pa_nil))))) (pss_cons (ps_set (i := 5) sc_law_bent.nd rfl (Or.inl rfl) (pe_call c_law_draw.ok (hr.mono (by decide)) (by rfl) c_law_draw.g c_law_draw.kp c_law_draw.b .nil pass0 (pa_cons (pv 0) (pa_cons (pe_callB (call_max2 rfl) (by rfl) m_max (by decide +kernel) (pa_cons (pe_int) (pa_cons (pv 3) (pa_nil)))) (pa_nil))))) (pss_cons (ps_if (pt_cmpR (op_eq) (pv 2) (pe_int) (nomark _)) (pss_cons (ps_set (i := 4) sc_law_bent.nd rfl (Or.inl rfl) (pe_call c_law_draw.ok (hr.mono (by decide)) (by rfl) c_law_draw.g c_law_draw.kp c_law_draw.b .nil pass0 (pa_cons (pv 0) (pa_cons (pe_op op_add (pv 3) (pe_int)) (pa_nil))))) (pss_cons (ps_ret (pe_op (zop_catS (K := K) rfl) (pe_op (zop_catS (K := K) rfl) (pe_slice (zsl_list (K := K) rfl) (pv 1) po_none (po_some (pv 4))) (pe_lst (pa_cons (pe_ix (zix_list (K := K) rfl) (pe_lst (pa_cons (pe_int) (pa_cons (pv 3) (pa_cons (pe_un un_neg (pe_int)) (pa_cons (pe_op op_pow (pe_int) (pe_int)) (pa_cons (pe_op op_fdivW (pv 3) (pe_int)) (pa_nil))))))) (pe_call c_law_draw.ok (hr.mono (by decide)) (by rfl) c_law_draw.g c_law_draw.kp c_law_draw.b .nil pass0 (pa_cons (pv 0) (pa_cons (pe_int) (pa_nil)))) (fun _ _ => rfl)) (pa_nil)))) (pe_slice (zsl_list (K := K) rfl) (pv 1) (po_some (pv 4)) po_none))) (pss_nil))) (pss_nil)) (pss_cons (ps_if (PW.pt (pw_or (pt_cmpR (op_eq) (pv 3) (pe_int) (nomark _)) (pw_or1 (pt_cmpR (op_lt) (pv 2) (pe_int) (nomark _))))) (pss_cons (ps_ret (pv 1)) (pss_nil)) (pss_nil)) (pss_cons (ps_if (PW.pt (pw_and (pt_cmpR (op_eq) (pv 2) (pe_int) (nomark _)) (pw_and1 (pt_cmpR (op_lt) (pe_op op_add (pv 4) (pe_int)) (pv 3) (nomark _))))) (pss_cons (ps_ret (pe_op (zop_catS (K := K) rfl) (pe_op (zop_catS (K := K) rfl) (pe_slice (zsl_list (K := K) rfl) (pv 1) po_none (po_some (pv 4))) (pe_lst (pa_cons (pe_ix (zix_list (K := K) rfl) (pv 1) (pe_op op_add (pv 4) (pe_int)) (fun _ _ => rfl)) (pa_cons (pe_ix (zix_list (K := K) rfl) (pv 1) (pv 4) (fun _ _ => rfl)) (pa_nil))))) (pe_slice (zsl_list (K := K) rfl) (pv 1) (po_some (pe_op op_add (pv 4) (pe_int))) po_none))) (pss_nil)) (pss_nil)) (pss_cons (ps_if (pt_cmpR (op_eq) (pv 2) (pe_int) (nomark _)) (pss_cons (ps_set (i := 6) sc_law_bent.nd rfl (Or.inl rfl) (pe_op (zop_catS (K := K) rfl) (pe_slice (zsl_list (K := K) rfl) (pv 1) po_none (po_some (pv 4))) (pe_slice (zsl_list (K := K) rfl) (pv 1) (po_some (pe_op op_add (pv 4) (pe_int))) po_none))) (pss_cons (ps_ret (pe_op (zop_catS (K := K) rfl) (pe_op (zop_catS (K := K) rfl) (pe_slice (zsl_list (K := K) rfl) (pv 6) po_none (po_some (pv 5))) (pe_lst (pa_cons (pe_ix (zix_list (K := K) rfl) (pv 1) (pv 4) (fun _ _ => rfl)) (pa_nil)))) (pe_slice (zsl_list (K := K) rfl) (pv 6) (po_some (pv 5)) po_none))) (pss_nil))) (pss_nil)) (pss_cons (ps_if (pt_cmpR (op_eq) (pv 2) (pe_int) (nomark _)) (pss_cons (ps_ret (pe_call c_law_dealt.ok (hr.mono (by decide)) (by rfl) c_law_dealt.g c_law_dealt.kp c_law_dealt.b .nil pass0 (pa_cons (pv 0) (pa_cons (pv 1) (pa_nil))))) (pss_nil)) (pss_nil)) (pss_cons (ps_if (pt_cmpR (op_eq) (pv 2) (pe_int) (nomark _)) (pss_cons (ps_set (i := 7) sc_law_bent.nd rfl (Or.inl rfl) (pe_lst (pa_cons (pe_ix (zix_list (K := K) rfl) (pv 1) (pv 5) (fun _ _ => rfl)) (pa_cons (pv 3) (pa_cons (pe_op op_sub (pe_un un_neg (pe_int)) (pe_ix (zix_list (K := K) rfl) (pv 1) (pv 5) (fun _ _ => rfl))) (pa_cons (pe_un un_neg (pe_int)) (pa_cons (pe_op op_pow (pe_int) (pe_int)) (pa_nil)))))))) (pss_cons (ps_ret (pe_op (zop_catS (K := K) rfl) (pe_op (zop_catS (K := K) rfl) (pe_slice (zsl_list (K := K) rfl) (pv 1) po_none (po_some (pv 4))) (pe_lst (pa_cons (pe_ix (zix_list (K := K) rfl) (pv 7) (pe_call c_law_draw.ok (hr.mono (by decide)) (by rfl) c_law_draw.g c_law_draw.kp c_law_draw.b .nil pass0 (pa_cons (pv 0) (pa_cons (pe_int) (pa_nil)))) (fun _ _ => rfl)) (pa_nil)))) (pe_slice (zsl_list (K := K) rfl) (pv 1) (po_some (pe_op op_add (pv 4) (pe_int))) po_none))) (pss_nil))) (pss_nil)) (pss_cons (ps_ret (pe_op (zop_catS (K := K) rfl) (pe_slice (zsl_list (K := K) rfl) (pv 1) po_none (po_some (pv 4))) (pe_slice (zsl_list (K := K) rfl) (pv 1) (po_some (pe_op op_add (pv 4) (pe_int))) po_none))) (pss_nil)))))))))), ?_⟩
    obtain rfl := d_int d_kind_
    refine l_asg (fun v => [_, _, _, some v, _, _, _, _]) (fun _ => rfl) ?_
    refine y_cb ?_
    refine y_cons ?_
    refine y_var rfl ?_
    refine y_nil ?_
    refine y_len (LV.of d_order_) z ?_
    refine l_i hw (fun many_ hw => ?_)
    refine l_asg (fun v => [_, _, _, _, some v, _, _, _]) (fun _ => rfl) ?_
    refine y_call ?_
    refine y_cons ?_
    refine y_var rfl ?_
    refine y_cons ?_
    refine y_cb ?_
    refine y_cons ?_
    refine y_c ?_
    refine y_cons ?_
    refine y_var rfl ?_
    refine y_nil ?_
    refine ⟨_, _, rfl, ?_⟩
    refine y_nil ?_
    refine ⟨amb, _, _, _, _, _, _, rfl, z, d_spring_, (Dq.int _), ?_⟩
    refine run_mono2 hw (fun t1 spring_ hw v g_spring_ H Ho e z d2 d_spring_ => ?_)
    replace d2 : Z.D K Ho v t1 := d2
    replace d_spring_ : OH K Ho v_spring_ spring_ g_spring_ := d_spring_
    replace d_order_ := D.mo d_order_ e
    have es4 := (Same.refl _).trans e
    obtain rfl := d_int d2
    refine l_i hw (fun at_ hw => ?_)
    refine l_asg (fun v => [_, _, _, _, _, some v, _, _]) (fun _ => rfl) ?_
    refine y_call ?_
    refine y_cons ?_
    refine y_var rfl ?_
    refine y_cons ?_
    refine y_cb ?_
    refine y_cons ?_
    refine y_c ?_
    refine y_cons ?_
    refine y_var rfl ?_
    refine y_nil ?_
    refine ⟨_, _, rfl, ?_⟩
    refine y_nil ?_
    refine ⟨amb, _, _, _, _, _, _, rfl, z, d_spring_, (Dq.int _), ?_⟩
    refine run_mono2 hw (fun t5 spring_ hw v g_spring_ H Ho e z d6 d_spring_ => ?_)
    replace d6 : Z.D K Ho v t5 := d6
    replace d_spring_ : OH K Ho v_spring_ spring_ g_spring_ := d_spring_
    replace d_order_ := D.mo d_order_ e
    have es8 := es4.trans e
    obtain rfl := d_int d6
    refine l_i hw (fun to_ hw => ?_)
    refine y_ifS ?_
    refine y_test ?_
    refine y_op ?_
    refine y_var rfl ?_
    refine y_c ?_
    refine y_eqi ?_
    refine ⟨_, rfl, ?_⟩
    refine y_cases hw (fun hb hw => ?_) (fun hb hw => ?_)
    · refine l_asg (fun v => [_, _, _, _, some v, _, _, _]) (fun _ => rfl) ?_
      refine y_call ?_
      refine y_cons ?_
      refine y_var rfl ?_
      refine y_cons ?_
      refine y_op ?_
      refine y_var rfl ?_
      refine y_c ?_
      refine y_i0 ?_
      refine y_nil ?_
      refine ⟨amb, _, _, _, _, _, _, rfl, z, d_spring_, (Dq.int _), ?_⟩
      refine run_mono2 hw (fun t9 spring_ hw v g_spring_ H Ho e z d10 d_spring_ => ?_)
      replace d10 : Z.D K Ho v t9 := d10
      replace d_spring_ : OH K Ho v_spring_ spring_ g_spring_ := d_spring_
      replace d_order_ := D.mo d_order_ e
      have es12 := es8.trans e
      obtain rfl := d_int d10
      refine l_i hw (fun at_ hw => ?_)
      refine y_ret ?_
      refine y_op ?_
      refine y_op ?_
      refine y_sl ?_
      refine y_var rfl ?_
      refine y_noPart ?_
      refine y_part ?_
      refine y_var rfl ?_
      refine ⟨_, rfl, ?_⟩
      refine y_slL (LV.of d_order_) z (fun H p13 ws14 z d15 => ?_)
      replace z : Zs ([(p13, HO.lst ws14)] ++ (g_spring_ ++ amb)) H Ho := z
      have o16 := OL.mk (p := p13) d15
      refine k_lst ?_
      refine y_cons ?_
      refine y_op ?_
      refine k_lst ?_
      refine y_cons ?_
      refine y_c ?_
      refine y_cons ?_
      refine y_var rfl ?_
      refine y_cons ?_
      refine y_un ?_
      refine y_c ?_
      refine y_neg ?_
      refine y_cons ?_
      refine y_op ?_
      refine y_c ?_
      refine y_c ?_
      refine y_ig hw.1 ?_
      replace hw := (run_gd hw).2
      refine y_cons ?_
      refine y_op ?_
      refine y_var rfl ?_
      refine y_c ?_
      refine y_ig hw.1 ?_
      replace hw := (run_gd hw).2
      refine y_nil ?_
      refine k_lstk (K := K) (xs := ([(0 : Int), many_, (-(1 : Int)), ((10 : Int) ^ ((29 : Int)).toNat), (many_ / (2 : Int))] : (List Int))) z (DqAll.cons (Dq.int _) (DqAll.cons (Dq.int _) (DqAll.cons (Dq.int _) (DqAll.cons (Dq.int _) (DqAll.cons (Dq.int _) DqAll.nil))))) (by show 5 ≤ sizeLine; decide) (fun H p17 ws18 z d19 => ?_)
      replace z : Zs ([(p17, HO.lst ws18)] ++ ([(p13, HO.lst ws14)] ++ (g_spring_ ++ amb))) H Ho := z
      have o20 := OL.mk (p := p17) d19
      refine y_call ?_
      refine y_cons ?_
      refine y_var rfl ?_
      refine y_cons ?_
      refine y_c ?_
      refine y_nil ?_
      replace z : Zs (g_spring_ ++ ([(p17, HO.lst ws18)] ++ ([(p13, HO.lst ws14)] ++ amb))) _ _ := z.go [[(p17, HO.lst ws18)], [(p13, HO.lst ws14)], g_spring_] amb [2, 0, 1]
      refine ⟨([(p17, HO.lst ws18)] ++ ([(p13, HO.lst ws14)] ++ amb)), _, _, _, _, _, _, rfl, z, d_spring_, (Dq.int _), ?_⟩
      refine run_mono2 hw (fun t21 spring_ hw v g_spring_ H Ho e z d22 d_spring_ => ?_)
      replace d22 : Z.D K Ho v t21 := d22
      replace d_spring_ : OH K Ho v_spring_ spring_ g_spring_ := d_spring_
      replace d_order_ := D.mo d_order_ e
      replace o16 := OL.mo o16 e
      replace o20 := OL.mo o20 e
      have es24 := es12.trans e
      obtain rfl := d_int d22
      refine y_ixL (OL.lv o20 (mgS mg0)) z hw (fun t25 w d26 hw => ?_)
      obtain rfl := d_int d26
      refine y_nil ?_
      refine k_lstk (K := K) (xs := ([t25] : (List Int))) z (DqAll.cons (Dq.int _) DqAll.nil) (by show 1 ≤ sizeLine; decide) (fun H p27 ws28 z d29 => ?_)
      replace z : Zs ([(p27, HO.lst ws28)] ++ (g_spring_ ++ ([(p17, HO.lst ws18)] ++ ([(p13, HO.lst ws14)] ++ amb)))) H Ho := z
      have o30 := OL.mk (p := p27) d29
      refine y_cat (OL.lv o16 (mgS (mgS (mgS mg0)))) (OL.lv o30 mg0) z hw.1 (fun H p31 ws32 z d33 => ?_)
      replace hw := (run_gd hw).2
      replace z : Zs ([(p31, HO.lst ws32)] ++ ([(p27, HO.lst ws28)] ++ (g_spring_ ++ ([(p17, HO.lst ws18)] ++ ([(p13, HO.lst ws14)] ++ amb))))) H Ho := z
      have o34 := OL.mk (p := p31) d33
      refine y_sl ?_
      refine y_var rfl ?_
      refine y_part ?_
      refine y_var rfl ?_
      refine ⟨_, rfl, ?_⟩
      refine y_noPart ?_
      refine y_slL (LV.of d_order_) z (fun H p35 ws36 z d37 => ?_)
      replace z : Zs ([(p35, HO.lst ws36)] ++ ([(p31, HO.lst ws32)] ++ ([(p27, HO.lst ws28)] ++ (g_spring_ ++ ([(p17, HO.lst ws18)] ++ ([(p13, HO.lst ws14)] ++ amb)))))) H Ho := z
      have o38 := OL.mk (p := p35) d37
      refine y_cat (OL.lv o34 (mgS mg0)) (OL.lv o38 mg0) z hw.1 (fun H p39 ws40 z d41 => ?_)
      replace hw := (run_gd hw).2
      replace z : Zs ([(p39, HO.lst ws40)] ++ ([(p35, HO.lst ws36)] ++ ([(p31, HO.lst ws32)] ++ ([(p27, HO.lst ws28)] ++ (g_spring_ ++ ([(p17, HO.lst ws18)] ++ ([(p13, HO.lst ws14)] ++ amb))))))) H Ho := z
      have o42 := OL.mk (p := p39) d41
      refine l_fr o42 z (fun Ho e z d43 => ?_)
      replace d_spring_ := OH.mo d_spring_ e
      have es44 := es24.trans e
      replace z : Zs (g_spring_ ++ amb) _ _ := z.go [[(p35, HO.lst ws36)], [(p31, HO.lst ws32)], [(p27, HO.lst ws28)], g_spring_, [(p17, HO.lst ws18)], [(p13, HO.lst ws14)]] amb [3]
      exact (run_ret hw) _ _ _ _ es44 z d43 d_spring_
    · refine y_nxS ?_
      refine y_ifS ?_
      refine y_or ?_
      refine y_test ?_
      refine y_op ?_
      refine y_var rfl ?_
      refine y_c ?_
      refine y_eqi ?_
      refine ⟨_, rfl, ?_⟩
      refine w_orP (decide (kind_ < (3 : Int))) (fun hb hq => ?_) ?_
      · refine y_test ?_
        refine y_op ?_
        refine y_var rfl ?_
        refine y_c ?_
        refine y_i0 ?_
        refine ⟨_, rfl, ?_⟩
        exact hq
      refine y_cases hw (fun hb hw => ?_) (fun hb hw => ?_)
      · refine y_ret ?_
        refine y_var rfl ?_
        exact (run_ret hw) _ _ _ _ es8 z d_order_ d_spring_
      · refine y_nxS ?_
        refine y_ifS ?_
        refine y_and ?_
        refine y_test ?_
        refine y_op ?_
        refine y_var rfl ?_
        refine y_c ?_
        refine y_eqi ?_
        refine ⟨_, rfl, ?_⟩
        refine w_andP (decide ((at_ + (1 : Int)) < many_)) (fun hb hq => ?_) ?_
        · refine y_test ?_
          refine y_op ?_
          refine y_op ?_
          refine y_var rfl ?_
          refine y_c ?_
          refine y_i0 ?_
          refine y_var rfl ?_
          refine y_i0 ?_
          refine ⟨_, rfl, ?_⟩
          exact hq
        refine y_cases hw (fun hb hw => ?_) (fun hb hw => ?_)
        · refine y_ret ?_
          refine y_op ?_
          refine y_op ?_
          refine y_sl ?_
          refine y_var rfl ?_
          refine y_noPart ?_
          refine y_part ?_
          refine y_var rfl ?_
          refine ⟨_, rfl, ?_⟩
          refine y_slL (LV.of d_order_) z (fun H p45 ws46 z d47 => ?_)
          replace z : Zs ([(p45, HO.lst ws46)] ++ (g_spring_ ++ amb)) H Ho := z
          have o48 := OL.mk (p := p45) d47
          refine k_lst ?_
          refine y_cons ?_
          refine y_op ?_
          refine y_var rfl ?_
          refine y_op ?_
          refine y_var rfl ?_
          refine y_c ?_
          refine y_i0 ?_
          refine y_ixL (LV.of d_order_) z hw (fun t49 w d50 hw => ?_)
          obtain rfl := d_int d50
          refine y_cons ?_
          refine y_op ?_
          refine y_var rfl ?_
          refine y_var rfl ?_
          refine y_ixL (LV.of d_order_) z hw (fun t51 w d52 hw => ?_)
          obtain rfl := d_int d52
          refine y_nil ?_
          refine k_lstk (K := K) (xs := ([t49, t51] : (List Int))) z (DqAll.cons (Dq.int _) (DqAll.cons (Dq.int _) DqAll.nil)) (by show 2 ≤ sizeLine; decide) (fun H p53 ws54 z d55 => ?_)
          replace z : Zs ([(p53, HO.lst ws54)] ++ ([(p45, HO.lst ws46)] ++ (g_spring_ ++ amb))) H Ho := z
          have o56 := OL.mk (p := p53) d55
          refine y_cat (OL.lv o48 (mgS mg0)) (OL.lv o56 mg0) z hw.1 (fun H p57 ws58 z d59 => ?_)
          replace hw := (run_gd hw).2
          replace z : Zs ([(p57, HO.lst ws58)] ++ ([(p53, HO.lst ws54)] ++ ([(p45, HO.lst ws46)] ++ (g_spring_ ++ amb)))) H Ho := z
          have o60 := OL.mk (p := p57) d59
          refine y_sl ?_
          refine y_var rfl ?_
          refine y_part ?_
          refine y_op ?_
          refine y_var rfl ?_
          refine y_c ?_
          refine y_i0 ?_
          refine ⟨_, rfl, ?_⟩
          refine y_noPart ?_
          refine y_slL (LV.of d_order_) z (fun H p61 ws62 z d63 => ?_)
          replace z : Zs ([(p61, HO.lst ws62)] ++ ([(p57, HO.lst ws58)] ++ ([(p53, HO.lst ws54)] ++ ([(p45, HO.lst ws46)] ++ (g_spring_ ++ amb))))) H Ho := z
          have o64 := OL.mk (p := p61) d63
          refine y_cat (OL.lv o60 (mgS mg0)) (OL.lv o64 mg0) z hw.1 (fun H p65 ws66 z d67 => ?_)
          replace hw := (run_gd hw).2
          replace z : Zs ([(p65, HO.lst ws66)] ++ ([(p61, HO.lst ws62)] ++ ([(p57, HO.lst ws58)] ++ ([(p53, HO.lst ws54)] ++ ([(p45, HO.lst ws46)] ++ (g_spring_ ++ amb)))))) H Ho := z
          have o68 := OL.mk (p := p65) d67
          refine l_fr o68 z (fun Ho e z d69 => ?_)
          replace d_spring_ := OH.mo d_spring_ e
          have es70 := es8.trans e
          replace z : Zs (g_spring_ ++ amb) _ _ := z.go [[(p61, HO.lst ws62)], [(p57, HO.lst ws58)], [(p53, HO.lst ws54)], [(p45, HO.lst ws46)], g_spring_] amb [4]
          exact (run_ret hw) _ _ _ _ es70 z d69 d_spring_
        · refine y_nxS ?_
          refine y_ifS ?_
          refine y_test ?_
          refine y_op ?_
          refine y_var rfl ?_
          refine y_c ?_
          refine y_eqi ?_
          refine ⟨_, rfl, ?_⟩
          refine y_cases hw (fun hb hw => ?_) (fun hb hw => ?_)
          · refine l_asg (fun v => [_, _, _, _, _, _, some v, _]) (fun _ => rfl) ?_
            refine y_op ?_
            refine y_sl ?_
            refine y_var rfl ?_
            refine y_noPart ?_
            refine y_part ?_
            refine y_var rfl ?_
            refine ⟨_, rfl, ?_⟩
            refine y_slL (LV.of d_order_) z (fun H p71 ws72 z d73 => ?_)
            replace z : Zs ([(p71, HO.lst ws72)] ++ (g_spring_ ++ amb)) H Ho := z
            have o74 := OL.mk (p := p71) d73
            refine y_sl ?_
            refine y_var rfl ?_
            refine y_part ?_
            refine y_op ?_
            refine y_var rfl ?_
            refine y_c ?_
            refine y_i0 ?_
            refine ⟨_, rfl, ?_⟩
            refine y_noPart ?_
            refine y_slL (LV.of d_order_) z (fun H p75 ws76 z d77 => ?_)
            replace z : Zs ([(p75, HO.lst ws76)] ++ ([(p71, HO.lst ws72)] ++ (g_spring_ ++ amb))) H Ho := z
            have o78 := OL.mk (p := p75) d77
            refine y_cat (OL.lv o74 (mgS mg0)) (OL.lv o78 mg0) z hw.1 (fun H p79 ws80 z d81 => ?_)
            replace hw := (run_gd hw).2
            replace z : Zs ([(p79, HO.lst ws80)] ++ ([(p75, HO.lst ws76)] ++ ([(p71, HO.lst ws72)] ++ (g_spring_ ++ amb)))) H Ho := z
            have o82 := OL.mk (p := p79) d81
            refine l_fr o82 z (fun Ho e z d83 => ?_)
            replace d_order_ := D.mo d_order_ e
            replace d_spring_ := OH.mo d_spring_ e
            have es84 := es8.trans e
            refine l_d (K := K) (Ho := Ho) hw d83 (fun left_ v_left_ d_left_ hw => ?_)
            replace z : Zs (g_spring_ ++ amb) _ _ := z.go [[(p75, HO.lst ws76)], [(p71, HO.lst ws72)], g_spring_] amb [2]
            refine y_ret ?_
            refine y_op ?_
            refine y_op ?_
            refine y_sl ?_
            refine y_var rfl ?_
            refine y_noPart ?_
            refine y_part ?_
            refine y_var rfl ?_
            refine ⟨_, rfl, ?_⟩
            refine y_slL (LV.of d_left_) z (fun H p85 ws86 z d87 => ?_)
            replace z : Zs ([(p85, HO.lst ws86)] ++ (g_spring_ ++ amb)) H Ho := z
            have o88 := OL.mk (p := p85) d87
            refine k_lst ?_
            refine y_cons ?_
            refine y_op ?_
            refine y_var rfl ?_
            refine y_var rfl ?_
            refine y_ixL (LV.of d_order_) z hw (fun t89 w d90 hw => ?_)
            obtain rfl := d_int d90
            refine y_nil ?_
            refine k_lstk (K := K) (xs := ([t89] : (List Int))) z (DqAll.cons (Dq.int _) DqAll.nil) (by show 1 ≤ sizeLine; decide) (fun H p91 ws92 z d93 => ?_)
            replace z : Zs ([(p91, HO.lst ws92)] ++ ([(p85, HO.lst ws86)] ++ (g_spring_ ++ amb))) H Ho := z
            have o94 := OL.mk (p := p91) d93
            refine y_cat (OL.lv o88 (mgS mg0)) (OL.lv o94 mg0) z hw.1 (fun H p95 ws96 z d97 => ?_)
            replace hw := (run_gd hw).2
            replace z : Zs ([(p95, HO.lst ws96)] ++ ([(p91, HO.lst ws92)] ++ ([(p85, HO.lst ws86)] ++ (g_spring_ ++ amb)))) H Ho := z
            have o98 := OL.mk (p := p95) d97
            refine y_sl ?_
            refine y_var rfl ?_
            refine y_part ?_
            refine y_var rfl ?_
            refine ⟨_, rfl, ?_⟩
            refine y_noPart ?_
            refine y_slL (LV.of d_left_) z (fun H p99 ws100 z d101 => ?_)
            replace z : Zs ([(p99, HO.lst ws100)] ++ ([(p95, HO.lst ws96)] ++ ([(p91, HO.lst ws92)] ++ ([(p85, HO.lst ws86)] ++ (g_spring_ ++ amb))))) H Ho := z
            have o102 := OL.mk (p := p99) d101
            refine y_cat (OL.lv o98 (mgS mg0)) (OL.lv o102 mg0) z hw.1 (fun H p103 ws104 z d105 => ?_)
            replace hw := (run_gd hw).2
            replace z : Zs ([(p103, HO.lst ws104)] ++ ([(p99, HO.lst ws100)] ++ ([(p95, HO.lst ws96)] ++ ([(p91, HO.lst ws92)] ++ ([(p85, HO.lst ws86)] ++ (g_spring_ ++ amb)))))) H Ho := z
            have o106 := OL.mk (p := p103) d105
            refine l_fr o106 z (fun Ho e z d107 => ?_)
            replace d_spring_ := OH.mo d_spring_ e
            have es108 := es84.trans e
            replace z : Zs (g_spring_ ++ amb) _ _ := z.go [[(p99, HO.lst ws100)], [(p95, HO.lst ws96)], [(p91, HO.lst ws92)], [(p85, HO.lst ws86)], g_spring_] amb [4]
            exact (run_ret hw) _ _ _ _ es108 z d107 d_spring_
          · refine y_nxS ?_
            refine y_ifS ?_
            refine y_test ?_
            refine y_op ?_
            refine y_var rfl ?_
            refine y_c ?_
            refine y_eqi ?_
            refine ⟨_, rfl, ?_⟩
            refine y_cases hw (fun hb hw => ?_) (fun hb hw => ?_)
            · refine y_ret ?_
              refine y_call ?_
              refine y_cons ?_
              refine y_var rfl ?_
              refine y_cons ?_
              refine y_var rfl ?_
              refine y_nil ?_
              refine ⟨amb, _, _, _, _, _, _, rfl, z, d_spring_, d_order_, ?_⟩
              refine run_mono2 hw (fun t109 spring_ hw v g_spring_ H Ho e z d110 d_spring_ => ?_)
              replace d110 : Z.D K Ho v t109 := d110
              replace d_spring_ : OH K Ho v_spring_ spring_ g_spring_ := d_spring_
              replace d_order_ := D.mo d_order_ e
              have es112 := es8.trans e
              exact (run_ret hw) _ _ _ _ es112 z d110 d_spring_
            · refine y_nxS ?_
              refine y_ifS ?_
              refine y_test ?_
              refine y_op ?_
              refine y_var rfl ?_
              refine y_c ?_
              refine y_eqi ?_
              refine ⟨_, rfl, ?_⟩
              refine y_cases hw (fun hb hw => ?_) (fun hb hw => ?_)
              · refine l_asg (fun v => [_, _, _, _, _, _, _, some v]) (fun _ => rfl) ?_
                refine k_lst ?_
                refine y_cons ?_
                refine y_op ?_
                refine y_var rfl ?_
                refine y_var rfl ?_
                refine y_ixL (LV.of d_order_) z hw (fun t113 w d114 hw => ?_)
                obtain rfl := d_int d114
                refine y_cons ?_
                refine y_var rfl ?_
                refine y_cons ?_
                refine y_op ?_
                refine y_un ?_
                refine y_c ?_
                refine y_neg ?_
                refine y_op ?_
                refine y_var rfl ?_
                refine y_var rfl ?_
                refine y_ixL (LV.of d_order_) z hw (fun t115 w d116 hw => ?_)
                obtain rfl := d_int d116
                refine y_i0 ?_
                refine y_cons ?_
                refine y_un ?_
                refine y_c ?_
                refine y_neg ?_
                refine y_cons ?_
                refine y_op ?_
                refine y_c ?_
                refine y_c ?_
                refine y_ig hw.1 ?_
                replace hw := (run_gd hw).2
                refine y_nil ?_
                refine k_lstk (K := K) (xs := ([t113, many_, ((-(1 : Int)) - t115), (-(1 : Int)), ((10 : Int) ^ ((29 : Int)).toNat)] : (List Int))) z (DqAll.cons (Dq.int _) (DqAll.cons (Dq.int _) (DqAll.cons (Dq.int _) (DqAll.cons (Dq.int _) (DqAll.cons (Dq.int _) DqAll.nil))))) (by show 5 ≤ sizeLine; decide) (fun H p117 ws118 z d119 => ?_)
                replace z : Zs ([(p117, HO.lst ws118)] ++ (g_spring_ ++ amb)) H Ho := z
                have o120 := OL.mk (p := p117) d119
                refine l_fr o120 z (fun Ho e z d121 => ?_)
                replace d_order_ := D.mo d_order_ e
                replace d_spring_ := OH.mo d_spring_ e
                have es122 := es8.trans e
                refine l_d (K := K) (Ho := Ho) hw d121 (fun some_ v_some_ d_some_ hw => ?_)
                refine y_ret ?_
                refine y_op ?_
                refine y_op ?_
                refine y_sl ?_
                refine y_var rfl ?_
                refine y_noPart ?_
                refine y_part ?_
                refine y_var rfl ?_
                refine ⟨_, rfl, ?_⟩
                refine y_slL (LV.of d_order_) z (fun H p123 ws124 z d125 => ?_)
                replace z : Zs ([(p123, HO.lst ws124)] ++ (g_spring_ ++ amb)) H Ho := z
                have o126 := OL.mk (p := p123) d125
                refine k_lst ?_
                refine y_cons ?_
                refine y_op ?_
                refine y_var rfl ?_
                refine y_call ?_
                refine y_cons ?_
                refine y_var rfl ?_
                refine y_cons ?_
                refine y_c ?_
                refine y_nil ?_
                replace z : Zs (g_spring_ ++ ([(p123, HO.lst ws124)] ++ amb)) _ _ := z.go [[(p123, HO.lst ws124)], g_spring_] amb [1, 0]
                refine ⟨([(p123, HO.lst ws124)] ++ amb), _, _, _, _, _, _, rfl, z, d_spring_, (Dq.int _), ?_⟩
                refine run_mono2 hw (fun t127 spring_ hw v g_spring_ H Ho e z d128 d_spring_ => ?_)
                replace d128 : Z.D K Ho v t127 := d128
                replace d_spring_ : OH K Ho v_spring_ spring_ g_spring_ := d_spring_
                replace d_order_ := D.mo d_order_ e
                replace d_some_ := D.mo d_some_ e
                replace o126 := OL.mo o126 e
                have es130 := es122.trans e
                obtain rfl := d_int d128
                refine y_ixL (LV.of d_some_) z hw (fun t131 w d132 hw => ?_)
                obtain rfl := d_int d132
                refine y_nil ?_
                refine k_lstk (K := K) (xs := ([t131] : (List Int))) z (DqAll.cons (Dq.int _) DqAll.nil) (by show 1 ≤ sizeLine; decide) (fun H p133 ws134 z d135 => ?_)
                replace z : Zs ([(p133, HO.lst ws134)] ++ (g_spring_ ++ ([(p123, HO.lst ws124)] ++ amb))) H Ho := z
                have o136 := OL.mk (p := p133) d135
                refine y_cat (OL.lv o126 (mgS (mgS mg0))) (OL.lv o136 mg0) z hw.1 (fun H p137 ws138 z d139 => ?_)
                replace hw := (run_gd hw).2
                replace z : Zs ([(p137, HO.lst ws138)] ++ ([(p133, HO.lst ws134)] ++ (g_spring_ ++ ([(p123, HO.lst ws124)] ++ amb)))) H Ho := z
                have o140 := OL.mk (p := p137) d139
                refine y_sl ?_
                refine y_var rfl ?_
                refine y_part ?_
                refine y_op ?_
                refine y_var rfl ?_
                refine y_c ?_
                refine y_i0 ?_
                refine ⟨_, rfl, ?_⟩
                refine y_noPart ?_
                refine y_slL (LV.of d_order_) z (fun H p141 ws142 z d143 => ?_)
                replace z : Zs ([(p141, HO.lst ws142)] ++ ([(p137, HO.lst ws138)] ++ ([(p133, HO.lst ws134)] ++ (g_spring_ ++ ([(p123, HO.lst ws124)] ++ amb))))) H Ho := z
                have o144 := OL.mk (p := p141) d143
                refine y_cat (OL.lv o140 (mgS mg0)) (OL.lv o144 mg0) z hw.1 (fun H p145 ws146 z d147 => ?_)
                replace hw := (run_gd hw).2
                replace z : Zs ([(p145, HO.lst ws146)] ++ ([(p141, HO.lst ws142)] ++ ([(p137, HO.lst ws138)] ++ ([(p133, HO.lst ws134)] ++ (g_spring_ ++ ([(p123, HO.lst ws124)] ++ amb)))))) H Ho := z
                have o148 := OL.mk (p := p145) d147
                refine l_fr o148 z (fun Ho e z d149 => ?_)
                replace d_spring_ := OH.mo d_spring_ e
                have es150 := es130.trans e
                replace z : Zs (g_spring_ ++ amb) _ _ := z.go [[(p141, HO.lst ws142)], [(p137, HO.lst ws138)], [(p133, HO.lst ws134)], g_spring_, [(p123, HO.lst ws124)]] amb [3]
                exact (run_ret hw) _ _ _ _ es150 z d149 d_spring_
              · refine y_nxS ?_
                refine y_ret ?_
                refine y_op ?_
                refine y_sl ?_
                refine y_var rfl ?_
                refine y_noPart ?_
                refine y_part ?_
                refine y_var rfl ?_
                refine ⟨_, rfl, ?_⟩
                refine y_slL (LV.of d_order_) z (fun H p151 ws152 z d153 => ?_)
                replace z : Zs ([(p151, HO.lst ws152)] ++ (g_spring_ ++ amb)) H Ho := z
                have o154 := OL.mk (p := p151) d153
                refine y_sl ?_
                refine y_var rfl ?_
                refine y_part ?_
                refine y_op ?_
                refine y_var rfl ?_
                refine y_c ?_
                refine y_i0 ?_
                refine ⟨_, rfl, ?_⟩
                refine y_noPart ?_
                refine y_slL (LV.of d_order_) z (fun H p155 ws156 z d157 => ?_)
                replace z : Zs ([(p155, HO.lst ws156)] ++ ([(p151, HO.lst ws152)] ++ (g_spring_ ++ amb))) H Ho := z
                have o158 := OL.mk (p := p155) d157
                refine y_cat (OL.lv o154 (mgS mg0)) (OL.lv o158 mg0) z hw.1 (fun H p159 ws160 z d161 => ?_)
                replace hw := (run_gd hw).2
                replace z : Zs ([(p159, HO.lst ws160)] ++ ([(p155, HO.lst ws156)] ++ ([(p151, HO.lst ws152)] ++ (g_spring_ ++ amb)))) H Ho := z
                have o162 := OL.mk (p := p159) d161
                refine l_fr o162 z (fun Ho e z d163 => ?_)
                replace d_spring_ := OH.mo d_spring_ e
                have es164 := es8.trans e
                replace z : Zs (g_spring_ ++ amb) _ _ := z.go [[(p155, HO.lst ws156)], [(p151, HO.lst ws152)], g_spring_] amb [2]
                exact (run_ret hw) _ _ _ _ es164 z d163 d_spring_
def sp_law_keeps (K : PySem.W.Frag) (cl : Nat → Addr) : Sp := fun vs H Q E => ∃ (amb : Grp) (Ho : Hp) (v0 : V) (x0 : (List (P3 Int Str Int))) (v1 : V) (x1 : (List Int)), vs = [v0, v1] ∧ Zs amb H Ho ∧ LV K amb Ho v0 x0 ∧ LV K amb Ho v1 x1 ∧ (m_law_keeps x0 x1).run fun r => ∀ v H' Ho', Same Ho Ho' → Zs amb H' Ho' → Z.D K Ho' v r → Q v H'
abbrev s_law_keeps : Stmt := topS 29
theorem sc_law_keeps : FnScope ["web", "order", "stands", "at", "j", "i"] ["web", "order"] (defScope s_law_keeps) := ⟨rfl, rfl, rfl, by decide +kernel, rfl, by decide +kernel, by decide +kernel⟩
theorem ok_law_keeps {f : Addr} {fd : FuncData} (F : Fun K "_law_keeps" "_law_keeps" s_law_keeps f fd) {f_law_step : Addr} {fd_law_step : FuncData} (c_law_step : Cal P w K mg base CX0 "_law_step" ["one", "other"] 2 (sp_law_step K cl) f_law_step fd_law_step) (m_len : mg "len" = none) (m_range : mg "range" = none) :
    FnOk P w K mg base CX0 3 f fd ["web", "order"] (sp_law_keeps K cl) := by
  refine F.ok sc_law_keeps (fun vs H Q E h => ?_) (fun cdv A outer s H vs Q E hr h => ?_)
  · obtain ⟨amb, Ho, v_web_, web_, v_order_, order_, rfl, _⟩ := h
    rfl
  · obtain ⟨amb, Ho, v_web_, web_, v_order_, order_, rfl, z, d_web_, d_order_, hw⟩ := h
    refine ⟨_, pss_cons (ps_set (i := 2) sc_law_keeps.nd rfl (Or.inr rfl) (pe_op op_rep (pe_lst (pa_cons (pe_int) (pa_nil))) (pe_callB (zlen (K := K) rfl) (by rfl) m_len (by decide +kernel) (pa_cons (pv 0) (pa_nil))))) (pss_cons (ps_for PassesOwn.never rfl (pi_range1 (by rfl) m_range (pa_cons (pe_callB (zlen (K := K) rfl) (by rfl) m_len (by decide +kernel) (pa_cons (pv 1) (pa_nil))) (pa_nil))) (pg_name (i := 3) sc_law_keeps.nd rfl (Or.inl rfl)) (pss_cons (ps_asg (pv 3) (pg_sub (pv 2) (pe_ix (zix_list (K := K) rfl) (pv 1) (pv 3) (fun _ _ => rfl)) set_list)) (pss_nil))) (pss_cons (ps_for PassesOwn.never rfl (pi_range1 (by rfl) m_range (pa_cons (pe_callB (zlen (K := K) rfl) (by rfl) m_len (by decide +kernel) (pa_cons (pv 0) (pa_nil))) (pa_nil))) (pg_name (i := 4) sc_law_keeps.nd rfl (Or.inr rfl)) (pss_cons (ps_if (pt_cmpR (zop_neD (K := K) rfl hr.units) (pe_lc (own := [("i", 5)]) rfl sc_law_keeps.nd (pi_range1 (by rfl) m_range (pa_cons (pv 4) (pa_nil))) (blkOk_by (N := ["web", "order", "stands", "at", "j", "i"]) (sc := defScope s_law_keeps) (by decide +kernel)) (fun _ _ _ _ _ => pg_name (i := 5) sc_law_keeps.nd rfl (Or.inl rfl)) (fun _ _ _ _ _ => pts_one (PW.pt (pw_and (pt_cmpR (op_gt) (pe_ix (zix_list (K := K) rfl) (pv 2) (pv 5) (fun _ _ => rfl)) (pe_ix (zix_list (K := K) rfl) (pv 2) (pv 4) (fun _ _ => rfl)) (nomark _)) (pw_and1 (pt_val (pe_call c_law_step.ok (hr.mono (by decide)) (by rfl) c_law_step.g c_law_step.kp c_law_step.b .nil pass0 (pa_cons (pe_ix (zix_list (K := K) rfl) (pv 0) (pv 5) (fun _ _ => rfl)) (pa_cons (pe_ix (zix_list (K := K) rfl) (pv 0) (pv 4) (fun _ _ => rfl)) (pa_nil))))))))) (fun _ _ _ _ _ => pv 5)) (pe_lst (pa_nil)) (nomark _)) (pss_cons (ps_ret (pe_bl)) (pss_nil)) (pss_nil)) (pss_nil))) (pss_cons (ps_ret (pe_bl)) (pss_nil)))), ?_⟩
    refine l_asg (fun v => [_, _, some v, _, _, _]) (fun _ => rfl) ?_
    refine y_op ?_
    refine k_lst ?_
    refine y_cons ?_
    refine y_c ?_
    refine y_nil ?_
    refine k_lstk (K := K) (xs := ([(0 : Int)] : (List Int))) z (DqAll.cons (Dq.int _) DqAll.nil) (by show 1 ≤ sizeLine; decide) (fun H p1 ws2 z d3 => ?_)
    replace z : Zs ([(p1, HO.lst ws2)] ++ amb) H Ho := z
    have o4 := OL.mk (p := p1) d3
    refine y_cb ?_
    refine y_cons ?_
    refine y_var rfl ?_
    refine y_nil ?_
    refine y_len (LV.sub d_web_ (mgS mgE)) z ?_
    refine y_rep z d3 hw.1 (fun H p5 ws6 z d7 => ?_)
    replace hw := (run_gd hw).2
    replace z : Zs ([(p5, HO.lst ws6)] ++ amb) H Ho := z
    have o8 := OL.mk (p := p5) d7
    refine l_o hw z o8 (fun stands_ v_stands_ g_stands_ z d_stands_ hw => ?_)
    refine y_for ?_
    refine k_iR1 ?_
    refine y_cons ?_
    refine y_cb ?_
    refine y_cons ?_
    refine y_var rfl ?_
    refine y_nil ?_
    refine y_len (LV.sub d_order_ (mgS mgE)) z ?_
    refine y_nil ?_
    refine k_srcR1 (K := K) (Ho := Ho) hw.1 (fun J T => ?_)
    replace hw := (run_gd hw).2
    refine y_forL T hw (fun (s : (List Int)) (σ : L2.St) (H Ho : Hp) => ∃ (g_stands_ : Grp) (y_at_ : Option V), σ = [some v_web_, some v_order_, some v_stands_, y_at_, none, none] ∧ Zs (g_stands_ ++ amb) H Ho ∧ OL K Ho v_stands_ s g_stands_) ⟨_, _, rfl, z, d_stands_⟩ ?_ ?_ ?_ ?_
    · intro s σ H Ho hI
      obtain ⟨g_stands_, y_at_, rfl, z, d_stands_⟩ := hI
      exact ⟨_, z, mgN⟩
    · intro s σ H Ho H2 Ho2 hI e t
      obtain ⟨g_stands_, y_at_, rfl, z, d_stands_⟩ := hI
      exact ⟨_, _, rfl, t _ z, OL.mo d_stands_ e⟩
    · intro at_ v_at_ s σ H Ho N e hI d_at_ hw
      obtain ⟨stands_, rfl⟩ : ∃ q, q = s := ⟨_, rfl⟩
      obtain ⟨g_stands_, y_at_, rfl, z, d_stands_⟩ := hI
      replace d_order_ := LV.mo d_order_ e
      replace d_web_ := LV.mo d_web_ e
      have es9 := (Same.refl _).trans e
      obtain rfl := d_int d_at_
      refine y_gname (σ' := [some v_web_, some v_order_, some v_stands_, some (V.int at_), none, none]) rfl ?_
      refine y_asgG ?_
      refine y_var rfl ?_
      refine y_gsub ?_
      refine y_var rfl ?_
      refine y_op ?_
      refine y_var rfl ?_
      refine y_var rfl ?_
      refine y_ixL (LV.sub d_order_ (mgS mgE)) z hw (fun t10 w d11 hw => ?_)
      obtain rfl := d_int d11
      refine g_sti z d_stands_ (Dq.int _) hw (fun stands_ g_stands_ H z d_stands_ hw => ?_)
      exact (run_ret hw) _ _ _ (Same.refl _) ⟨_, _, rfl, z, d_stands_⟩
    intro s σ H Ho e hI hw
    obtain ⟨stands_, rfl⟩ : ∃ q, q = s := ⟨_, rfl⟩
    obtain ⟨g_stands_, y_at_, rfl, z, d_stands_⟩ := hI
    replace d_web_ := LV.mo d_web_ e
    have es12 := (Same.refl _).trans e
    refine y_for ?_
    refine k_iR1 ?_
    refine y_cons ?_
    refine y_cb ?_
    refine y_cons ?_
    refine y_var rfl ?_
    refine y_nil ?_
    refine y_len (LV.sub d_web_ (mgS mgE)) z ?_
    refine y_nil ?_
    refine k_srcR1 (K := K) (Ho := Ho) hw.1 (fun J T => ?_)
    replace hw := (run_gd hw).2
    refine y_forC T hw (fun (s : Unit) (σ : L2.St) (H Ho : Hp) => ∃ (y_j_ : Option V), σ = [some v_web_, some v_order_, some v_stands_, y_at_, y_j_, none] ∧ Zs (g_stands_ ++ amb) H Ho) ⟨_, rfl, z⟩ ?_ ?_ ?_ ?_
    · intro s σ H Ho hI
      obtain ⟨y_j_, rfl, z⟩ := hI
      exact ⟨_, z, mgN⟩
    · intro s σ H Ho H2 Ho2 hI e t
      obtain ⟨y_j_, rfl, z⟩ := hI
      exact ⟨_, rfl, t _ z⟩
    · intro j_ v_j_ s σ H Ho N B e hI d_j_ hw
      obtain ⟨y_j_, rfl, z⟩ := hI
      replace d_stands_ := OL.mo d_stands_ e
      replace d_web_ := LV.mo d_web_ e
      have es13 := es12.trans e
      obtain rfl := d_int d_j_
      refine y_gname (σ' := [some v_web_, some v_order_, some v_stands_, y_at_, some (V.int j_), none]) rfl ?_
      refine y_ifS ?_
      refine y_test ?_
      refine y_op ?_
      refine y_lc ?_
      refine k_iR1 ?_
      refine y_cons ?_
      refine y_var rfl ?_
      refine y_nil ?_
      refine k_srcR1 (K := K) (Ho := Ho) hw.1 (fun J T => ?_)
      replace hw := (run_gd hw).2
      refine y_lcG z mgN T hw (fun r14 i_ v_i_ H Ho N N' e z d_i_ hw => ?_) (fun t34 H Ho e hw p31 ws32 z d33 => ?_)
      · replace z : Zs ([r14] ++ (g_stands_ ++ amb)) H Ho := z
        replace d_stands_ := OL.mo d_stands_ e
        replace d_web_ := LV.mo d_web_ e
        have es15 := (Same.refl _).trans e
        obtain rfl := d_int d_i_
        refine y_gname (σ' := [some v_web_, some v_order_, some v_stands_, y_at_, some (V.int j_), some (V.int i_)]) rfl ?_
        refine ⟨rfl, ?_⟩
        refine y_and ?_
        refine y_test ?_
        refine y_op ?_
        refine y_op ?_
        refine y_var rfl ?_
        refine y_var rfl ?_
        refine y_ixL (OL.lv d_stands_ (mgS mg0)) z hw (fun t16 w d17 hw => ?_)
        obtain rfl := d_int d17
        refine y_op ?_
        refine y_var rfl ?_
        refine y_var rfl ?_
        refine y_ixL (OL.lv d_stands_ (mgS mg0)) z hw (fun t18 w d19 hw => ?_)
        obtain rfl := d_int d19
        refine y_i0 ?_
        refine ⟨_, rfl, ?_⟩
        refine w_andJ hw (fun (s : Bool) (v : Bool) (H2 : Hp) => ∃ (Ho2 : Hp), Same Ho Ho2 ∧ Zs ([r14] ++ (g_stands_ ++ amb)) H2 Ho2 ∧ v = s) (fun hb hw => ?_) (fun hb hw => ?_) ?_
        · refine y_tB ?_
          refine y_call ?_
          refine y_cons ?_
          refine y_op ?_
          refine y_var rfl ?_
          refine y_var rfl ?_
          refine y_ixL (LV.sub d_web_ (mgS (mgS mgE))) z hw (fun t20 w d21 hw => ?_)
          refine y_cons ?_
          refine y_op ?_
          refine y_var rfl ?_
          refine y_var rfl ?_
          refine y_ixL (LV.sub d_web_ (mgS (mgS mgE))) z hw (fun t22 w d23 hw => ?_)
          refine y_nil ?_
          refine ⟨([r14] ++ (g_stands_ ++ amb)), _, _, _, _, _, rfl, z, d21, d23, ?_⟩
          refine run_mono' (run_b hw) (fun t24 hw v H Ho e z d25 => ?_)
          replace d_stands_ := OL.mo d_stands_ e
          replace d_web_ := LV.mo d_web_ e
          have es27 := (Same.refl _).trans e
          obtain rfl := d_bool d25
          refine ⟨_, rfl, ?_⟩
          exact (run_ret hw) _ _ ⟨_, es27, z, rfl⟩
        · exact (run_ret hw) _ _ ⟨_, (Same.refl _), z, rfl⟩
        rintro t28 v H ⟨Ho, e, z, rfl⟩ hw
        replace d_stands_ := OL.mo d_stands_ e
        replace d_web_ := LV.mo d_web_ e
        have es30 := (Same.refl _).trans e
        refine w_two (fun hb => ?_) (fun hb => ?_)
        · replace hw := run_itT (run_ret hw) hb
          refine y_var rfl ?_
          exact (run_ret hw) _ _ _ es30 z (Dq.int _)
        · exact run_itF (run_ret hw) hb _ _ es30 z
      replace d_stands_ := OL.mo d_stands_ e
      replace d_web_ := LV.mo d_web_ e
      have es35 := (Same.refl _).trans e
      replace z : Zs ([(p31, HO.lst ws32)] ++ (g_stands_ ++ amb)) H Ho := z
      have o36 := OL.mk (p := p31) d33
      refine k_lst ?_
      refine y_nil ?_
      refine k_lstk (K := K) (xs := ([] : (List Int))) z DqAll.nil (by show 0 ≤ sizeLine; decide) (fun H p37 ws38 z d39 => ?_)
      replace z : Zs ([(p37, HO.lst ws38)] ++ ([(p31, HO.lst ws32)] ++ (g_stands_ ++ amb))) H Ho := z
      have o40 := OL.mk (p := p37) d39
      refine y_neD (LV.dp (OL.lv o36 (mgS mg0)) z) (LV.dp (OL.lv o40 mg0) z) hw.1 ?_
      replace hw := (run_gd hw).2
      refine ⟨_, rfl, ?_⟩
      refine y_cases hw (fun hb hw => ?_) (fun hb hw => ?_)
      · replace z : Zs (g_stands_ ++ amb) _ _ := z.go [[(p37, HO.lst ws38)], [(p31, HO.lst ws32)], g_stands_] amb [2]
        refine y_ret ?_
        refine y_c ?_
        replace z : Zs amb _ _ := z.go [g_stands_] amb []
        exact (ctl_rt (run_ret hw)) _ _ _ (es13.trans es35) z (Dq.bl _)
      · refine y_nxS ?_
        replace z : Zs (g_stands_ ++ amb) _ _ := z.go [[(p37, HO.lst ws38)], [(p31, HO.lst ws32)], g_stands_] amb [2]
        exact ctl_nx (run_ret hw) _ _ _ es35 ⟨_, rfl, z⟩
    intro s σ H Ho e hI hw
    obtain ⟨y_j_, rfl, z⟩ := hI
    replace d_stands_ := OL.mo d_stands_ e
    have es41 := es12.trans e
    refine y_ret ?_
    refine y_c ?_
    replace z : Zs amb _ _ := z.go [g_stands_] amb []
    exact (run_ret hw) _ _ _ es41 z (Dq.bl _)
def sp_law_right (K : PySem.W.Frag) (cl : Nat → Addr) : Sp := fun vs H Q E => ∃ (amb : Grp) (Ho : Hp) (v0 : V) (x0 : (List (P3 Int Str Int))) (v1 : V) (x1 : (List Int)), vs = [v0, v1] ∧ Zs amb H Ho ∧ Z.D K Ho v0 x0 ∧ Z.D K Ho v1 x1 ∧ (m_law_right x0 x1).run fun r => ∀ v H' Ho', Same Ho Ho' → Zs amb H' Ho' → Z.D K Ho' v r → Q v H'
abbrev s_law_right : Stmt := topS 30
theorem sc_law_right : FnScope ["web", "order", "handed", "found", "marks", "e"] ["web", "order"] (defScope s_law_right) := ⟨rfl, rfl, rfl, by decide +kernel, rfl, by decide +kernel, by decide +kernel⟩
theorem ok_law_right {f : Addr} {fd : FuncData} (F : Fun K "_law_right" "_law_right" s_law_right f fd) {f_same_run : Addr} {fd_same_run : FuncData} (c_same_run : Cal P w K mg base (L2.CX P w) "same_run" ["web", "order"] 3 (sp_same_run K cl) f_same_run fd_same_run) {f_law_keeps : Addr} {fd_law_keeps : FuncData} (c_law_keeps : Cal P w K mg base CX0 "_law_keeps" ["web", "order"] 3 (sp_law_keeps K cl) f_law_keeps fd_law_keeps) (m_list : mg "list" = none) (m_isinstance : mg "isinstance" = none) (m_ValueError : mg "ValueError" = none) (m_sorted : mg "sorted" = none) (m_len : mg "len" = none) (m_range : mg "range" = none) (m_bool : mg "bool" = none) {q_NoteError q_Held q_NoCut q_NoForm q_NoHand q_NoneYet q_NoNumber q_NoText q_NoNote q_NoPlace q_Over q_RowError q_TooMany : Addr} (gc_NoteError : mg "NoteError" = some (.ref q_NoteError)) (exm_NoteError : ∀ n, PySem.W.exmOne K (.ref (cl n)) (.ref q_NoteError) = some (sub_NoteError n)) (xc : ∀ n, ExcC K (cl n)) (kit_NoOrder : ∀ n, PySem.W.kitOne K (.ref (cl n)) (.ref (cl 0)) = some (sub_NoOrder n)) (gc_NoOrder : mg "NoOrder" = some (.ref (cl 0))) (kitT_ValueError : ∀ n, PySem.W.kitOne K (.ref (cl n)) (.type "ValueError") = some (subT_ValueError n)) (kit_Held : ∀ n, PySem.W.kitOne K (.ref (cl n)) (.ref q_Held) = some (sub_Held n)) (gc_Held : mg "Held" = some (.ref q_Held)) (kit_NoCut : ∀ n, PySem.W.kitOne K (.ref (cl n)) (.ref q_NoCut) = some (sub_NoCut n)) (gc_NoCut : mg "NoCut" = some (.ref q_NoCut)) (kit_NoForm : ∀ n, PySem.W.kitOne K (.ref (cl n)) (.ref q_NoForm) = some (sub_NoForm n)) (gc_NoForm : mg "NoForm" = some (.ref q_NoForm)) (kit_NoHand : ∀ n, PySem.W.kitOne K (.ref (cl n)) (.ref q_NoHand) = some (sub_NoHand n)) (gc_NoHand : mg "NoHand" = some (.ref q_NoHand)) (kit_NoneYet : ∀ n, PySem.W.kitOne K (.ref (cl n)) (.ref q_NoneYet) = some (sub_NoneYet n)) (gc_NoneYet : mg "NoneYet" = some (.ref q_NoneYet)) (kit_NoNumber : ∀ n, PySem.W.kitOne K (.ref (cl n)) (.ref q_NoNumber) = some (sub_NoNumber n)) (gc_NoNumber : mg "NoNumber" = some (.ref q_NoNumber)) (kit_NoText : ∀ n, PySem.W.kitOne K (.ref (cl n)) (.ref q_NoText) = some (sub_NoText n)) (gc_NoText : mg "NoText" = some (.ref q_NoText)) (kit_NoNote : ∀ n, PySem.W.kitOne K (.ref (cl n)) (.ref q_NoNote) = some (sub_NoNote n)) (gc_NoNote : mg "NoNote" = some (.ref q_NoNote)) (kit_NoPlace : ∀ n, PySem.W.kitOne K (.ref (cl n)) (.ref q_NoPlace) = some (sub_NoPlace n)) (gc_NoPlace : mg "NoPlace" = some (.ref q_NoPlace)) (kit_Over : ∀ n, PySem.W.kitOne K (.ref (cl n)) (.ref q_Over) = some (sub_Over n)) (gc_Over : mg "Over" = some (.ref q_Over)) (kit_RowError : ∀ n, PySem.W.kitOne K (.ref (cl n)) (.ref q_RowError) = some (sub_RowError n)) (gc_RowError : mg "RowError" = some (.ref q_RowError)) (kit_TooMany : ∀ n, PySem.W.kitOne K (.ref (cl n)) (.ref q_TooMany) = some (sub_TooMany n)) (gc_TooMany : mg "TooMany" = some (.ref q_TooMany)) :
    FnOk P w K mg base CX0 4 f fd ["web", "order"] (sp_law_right K cl) := by
  refine F.ok sc_law_right (fun vs H Q E h => ?_) (fun cdv A outer s H vs Q E hr h => ?_)
  · obtain ⟨amb, Ho, v_web_, web_, v_order_, order_, rfl, _⟩ := h
    rfl
  · obtain ⟨amb, Ho, v_web_, web_, v_order_, order_, rfl, z, d_web_, d_order_, hw⟩ := h
    refine ⟨_, pss_cons (ps_set (i := 2) sc_law_right.nd rfl (Or.inl rfl) (pe_tup (pa_cons (pe_callTy (zlist (K := K) rfl) (by rfl) m_list (by decide +kernel) (pa_cons (pv 0) (pa_nil))) (pa_cons (pe_callTy (zlist (K := K) rfl) (by rfl) m_list (by decide +kernel) (pa_cons (pv 1) (pa_nil))) (pa_nil))))) (pss_cons (ps_set (i := 3) sc_law_right.nd rfl (Or.inl rfl) (pe_non)) (pss_cons (ps_set (i := 4) sc_law_right.nd rfl (Or.inl rfl) (pe_lst (pa_nil))) (pss_cons (zps_try_as (K := K) (i := 5) rfl rfl rfl sc_law_right.nd rfl rfl ⟨rfl, by decide, .inl gc_NoteError⟩ takes0 (fun W21 pn21 xe21 tk21 xp21 => pss_cons (ps_set (i := 3) sc_law_right.nd rfl (Or.inl rfl) ((by exact (pe_callS c_same_run.ok (hr.mono (by decide)) (by rfl) c_same_run.g c_same_run.kp c_same_run.b (fun σ => passAt tk21 σ) (pa_cons (pe_ix (zix_tup (K := K) rfl) (pv 2) (pe_int) (fun _ _ => rfl)) (pa_cons (pe_ix (zix_tup (K := K) rfl) (pv 2) (pe_int) (fun _ _ => rfl)) (pa_nil))))))) (pss_nil)) (fun ta21 oe21 cls21 d21 pn21 hz21 hf21 => pss_cons (ps_set (i := 4) sc_law_right.nd rfl (Or.inl rfl) (pe_lst (pa_cons (pe_and (pe_callB (zisX (K := K) rfl hz21 hf21) (by rfl) m_isinstance (by decide +kernel) (pa_cons (pv 5) (pa_cons (pe_glob (v := .ref (cl 0)) rfl gc_NoOrder rfl) pa_nil))) (pe_one (pe_callB (zisX (K := K) rfl hz21 hf21) (by rfl) m_isinstance (by decide +kernel) (pa_cons (pv 5) (pa_cons (pe_bltn (v := .ty "ValueError") (by rfl) m_ValueError (by decide +kernel) rfl) pa_nil))))) (pa_cons (pe_callB (zisXT (K := K) rfl hz21 hf21) (by rfl) m_isinstance (by decide +kernel) (pa_cons (pv 5) (pa_cons (pe_tup (pa_cons (pe_glob (v := .ref q_Held) rfl gc_Held rfl) (pa_cons (pe_glob (v := .ref q_NoCut) rfl gc_NoCut rfl) (pa_cons (pe_glob (v := .ref q_NoForm) rfl gc_NoForm rfl) (pa_cons (pe_glob (v := .ref q_NoHand) rfl gc_NoHand rfl) (pa_cons (pe_glob (v := .ref q_NoneYet) rfl gc_NoneYet rfl) (pa_cons (pe_glob (v := .ref q_NoNumber) rfl gc_NoNumber rfl) (pa_cons (pe_glob (v := .ref q_NoText) rfl gc_NoText rfl) (pa_nil))))))))) pa_nil))) (pa_cons (pe_callB (zisXT (K := K) rfl hz21 hf21) (by rfl) m_isinstance (by decide +kernel) (pa_cons (pv 5) (pa_cons (pe_tup (pa_cons (pe_glob (v := .ref q_NoNote) rfl gc_NoNote rfl) (pa_cons (pe_glob (v := .ref q_NoPlace) rfl gc_NoPlace rfl) (pa_cons (pe_glob (v := .ref q_Over) rfl gc_Over rfl) (pa_cons (pe_glob (v := .ref q_RowError) rfl gc_RowError rfl) (pa_cons (pe_glob (v := .ref q_TooMany) rfl gc_TooMany rfl) (pa_nil))))))) pa_nil))) (pa_nil)))))) (pss_nil))) (pss_cons (ps_if (pt_cmpR (zop_neD (K := K) rfl hr.units) (pv 2) (pe_tup (pa_cons (pv 0) (pa_cons (pv 1) (pa_nil)))) (nomark _)) (pss_cons (ps_ret (pe_bl)) (pss_nil)) (pss_nil)) (pss_cons (ps_if (pt_cmpR (zop_neD (K := K) rfl hr.units) (pe_callB (zsortI (K := K) rfl) (by rfl) m_sorted (by decide +kernel) (pa_cons (pv 1) (pa_nil))) (pe_listRg rfl (by rfl) m_list (prg_1 (by rfl) m_range (pe_callB (zlen (K := K) rfl) (by rfl) m_len (by decide +kernel) (pa_cons (pv 0) (pa_nil))))) (nomark _)) (pss_cons (ps_ret (pe_cmpR (zop_eqD (K := K) rfl hr.units) (pv 4) (pe_lst (pa_cons (pe_bl) (pa_cons (pe_bl) (pa_cons (pe_bl) (pa_nil))))) (nomark _))) (pss_nil)) (pss_nil)) (pss_cons (ps_ret (pe_and (pe_callB (zisi (K := K) rfl) (by rfl) m_isinstance (by decide +kernel) (pa_cons (pv 3) (pa_cons (pe_bltn (v := .ty "bool") (by rfl) m_bool (by decide +kernel) rfl) pa_nil))) (pe_one (pe_cmpR (zop_eqD (K := K) rfl hr.units) (pv 3) (pe_call c_law_keeps.ok (hr.mono (by decide)) (by rfl) c_law_keeps.g c_law_keeps.kp c_law_keeps.b .nil pass0 (pa_cons (pv 0) (pa_cons (pv 1) (pa_nil)))) (nomark _))))) (pss_nil))))))), ?_⟩
    refine l_asg (fun v => [_, _, some v, _, _, _]) (fun _ => rfl) ?_
    refine k_tup ?_
    refine y_cons ?_
    refine y_cb ?_
    refine y_cons ?_
    refine y_var rfl ?_
    refine y_nil ?_
    refine y_list (LV.of d_web_) z (fun H p1 ws2 z d3 => ?_)
    replace z : Zs ([(p1, HO.lst ws2)] ++ amb) H Ho := z
    have o4 := OL.mk (p := p1) d3
    refine y_cons ?_
    refine y_cb ?_
    refine y_cons ?_
    refine y_var rfl ?_
    refine y_nil ?_
    refine y_list (LV.of d_order_) z (fun H p5 ws6 z d7 => ?_)
    replace z : Zs ([(p5, HO.lst ws6)] ++ ([(p1, HO.lst ws2)] ++ amb)) H Ho := z
    have o8 := OL.mk (p := p5) d7
    refine y_nil ?_
    replace z : Zs ([(p1, HO.lst ws2)] ++ ([(p5, HO.lst ws6)] ++ amb)) _ _ := z.go [[(p5, HO.lst ws6)], [(p1, HO.lst ws2)]] amb [1, 0]
    refine l_fr o4 z (fun Ho e z d9 => ?_)
    replace d_order_ := D.mo d_order_ e
    replace d_web_ := D.mo d_web_ e
    replace o8 := OL.mo o8 e
    have es10 := (Same.refl _).trans e
    refine l_fr o8 z (fun Ho e z d11 => ?_)
    replace d_order_ := D.mo d_order_ e
    replace d_web_ := D.mo d_web_ e
    replace d9 := D.mo d9 e
    have es12 := es10.trans e
    refine k_tupk (K := K) (x := (web_, order_)) z (by show 2 ≤ sizeLine; decide) _ rfl (DqAll.cons d9 (DqAll.cons d11 DqAll.nil)) (fun p H Ho e z d13 => ?_)
    replace d_order_ := D.mo d_order_ e
    replace d_web_ := D.mo d_web_ e
    have es14 := es12.trans e
    refine l_d (K := K) (Ho := Ho) hw d13 (fun handed_ v_handed_ d_handed_ hw => ?_)
    refine l_asg (fun v => [_, _, _, some v, _, _]) (fun _ => rfl) ?_
    refine y_c ?_
    refine l_d (K := K) (Ho := Ho) hw (show Z.D K Ho V.non (none : (Option Bool)) from Dq.non) (fun found_ v_found_ d_found_ hw => ?_)
    refine l_asg (fun v => [_, _, _, _, some v, _]) (fun _ => rfl) ?_
    refine k_lst ?_
    refine y_nil ?_
    refine k_lstk (K := K) (xs := ([] : (List Bool))) z DqAll.nil (by show 0 ≤ sizeLine; decide) (fun H p15 ws16 z d17 => ?_)
    replace z : Zs ([(p15, HO.lst ws16)] ++ amb) H Ho := z
    have o18 := OL.mk (p := p15) d17
    refine l_fr o18 z (fun Ho e z d19 => ?_)
    replace d_found_ := D.mo d_found_ e
    replace d_handed_ := D.mo d_handed_ e
    replace d_order_ := D.mo d_order_ e
    replace d_web_ := D.mo d_web_ e
    have es20 := es14.trans e
    refine l_d (K := K) (Ho := Ho) hw d19 (fun marks_ v_marks_ d_marks_ hw => ?_)
    refine y_tryJ (fun a => [_, _, _, _, _, some (V.ref a)]) exm_NoteError z hw (fun (s : (Option Bool) × (List Bool)) (σ : L2.St) (H Ho : Hp) => ∃ (v_found_ : V) (v_marks_ : V) (y_e_ : Option V), σ = [some v_web_, some v_order_, some v_handed_, some v_found_, some v_marks_, y_e_] ∧ Zs amb H Ho ∧ Z.D K Ho v_found_ s.1 ∧ Z.D K Ho v_marks_ s.2) (fun _ => rfl) (fun Wx N hw => ?_) (fun er a21 H Ho N e z _ hw => ?_) ?_
    · refine l_asg (fun v => [_, _, _, some v, _, _]) (fun _ => rfl) ?_
      refine y_callS ?_
      refine y_cons ?_
      refine y_op ?_
      refine y_var rfl ?_
      refine y_c ?_
      refine y_ixT (y := handed_.1) d_handed_ z ⟨_, rfl, rfl⟩ (fun w d22 => ?_)
      refine y_cons ?_
      refine y_op ?_
      refine y_var rfl ?_
      refine y_c ?_
      refine y_ixT (y := handed_.2) d_handed_ z ⟨_, rfl, rfl⟩ (fun w d23 => ?_)
      refine y_nil ?_
      refine ⟨amb, _, _, _, _, _, rfl, z, (LV.of d22), (LV.of d23), ?_⟩
      refine exm_mono (run_exm hw) (fun t24 hw v H Ho e z d25 => ?_) (fun er hw H Ho e z => ?_)
      rotate_left
      · exact exP_er (run_ret hw) _ _ ((Same.refl _).trans e) z
      replace d_found_ := D.mo d_found_ e
      replace d_handed_ := D.mo d_handed_ e
      replace d_marks_ := D.mo d_marks_ e
      replace d_order_ := D.mo d_order_ e
      replace d_web_ := D.mo d_web_ e
      have es27 := (Same.refl _).trans e
      obtain rfl := d_bool d25
      refine l_d (K := K) (Ho := Ho) hw (show Z.D K Ho _ (some t24) from (Dq.bl _)) (fun found_ v_found_ d_found_ hw => ?_)
      exact exP_ok (run_ret hw) _ _ _ es27 ⟨_, _, _, rfl, z, d_found_, d_marks_⟩
    · replace d_found_ := D.mo d_found_ e
      replace d_handed_ := D.mo d_handed_ e
      replace d_marks_ := D.mo d_marks_ e
      replace d_order_ := D.mo d_order_ e
      replace d_web_ := D.mo d_web_ e
      have es28 := es20.trans e
      refine l_asg (fun v => [_, _, _, _, some v, _]) (fun _ => rfl) ?_
      refine k_lst ?_
      refine y_cons ?_
      refine y_andV ?_
      refine y_cb ?_
      refine y_cons (y_var rfl ?_)
      refine y_cons (y_c (y_nil ?_))
      refine y_isX (xc _) (.own _) (kit_NoOrder _) ?_
      refine ⟨_, rfl, ?_⟩
      refine w_andVJ hw (fun (s : Bool) (v : V) (H2 : Hp) => ∃ (Ho2 : Hp), Same Ho Ho2 ∧ Zs amb H2 Ho2 ∧ v = V.bl s) (fun hb hw => ?_) (fun hb hw => ?_) ?_
      · refine y_cb ?_
        refine y_cons (y_var rfl ?_)
        refine y_cons (y_c (y_nil ?_))
        refine y_isX (xc _) (.ty _) (kitT_ValueError _) ?_
        exact (run_ret hw) _ _ ⟨_, (Same.refl _), z, rfl⟩
      · exact (run_ret hw) _ _ ⟨_, (Same.refl _), z, rfl⟩
      rintro t29 v H ⟨Ho, e, z, rfl⟩ hw
      replace d_found_ := D.mo d_found_ e
      replace d_handed_ := D.mo d_handed_ e
      replace d_marks_ := D.mo d_marks_ e
      replace d_order_ := D.mo d_order_ e
      replace d_web_ := D.mo d_web_ e
      have es31 := (Same.refl _).trans e
      refine y_cons ?_
      refine y_cb ?_
      refine y_cons (y_var rfl ?_)
      refine y_cons (k_tcs z (.cons (.cons (.cons (.cons (.cons (.cons (.cons .nil))))))) (by show 7 ≤ sizeLine; decide) (fun p H Ho e z hp => ?_))
      refine y_nil (k_isXT hp (xc _) (.cons (.own _) (.cons (.own _) (.cons (.own _) (.cons (.own _) (.cons (.own _) (.cons (.own _) (.cons (.own _) .nil))))))) (kitAny_or (kit_Held _) (kitAny_or (kit_NoCut _) (kitAny_or (kit_NoForm _) (kitAny_or (kit_NoHand _) (kitAny_or (kit_NoneYet _) (kitAny_or (kit_NoNumber _) (kitAny_or (kit_NoText _) kitAny_nil))))))) ?_)
      replace d_found_ := D.mo d_found_ e
      replace d_handed_ := D.mo d_handed_ e
      replace d_marks_ := D.mo d_marks_ e
      replace d_order_ := D.mo d_order_ e
      replace d_web_ := D.mo d_web_ e
      have es32 := es31.trans e
      refine y_cons ?_
      refine y_cb ?_
      refine y_cons (y_var rfl ?_)
      refine y_cons (k_tcs z (.cons (.cons (.cons (.cons (.cons .nil))))) (by show 5 ≤ sizeLine; decide) (fun p H Ho e z hp => ?_))
      refine y_nil (k_isXT hp (xc _) (.cons (.own _) (.cons (.own _) (.cons (.own _) (.cons (.own _) (.cons (.own _) .nil))))) (kitAny_or (kit_NoNote _) (kitAny_or (kit_NoPlace _) (kitAny_or (kit_Over _) (kitAny_or (kit_RowError _) (kitAny_or (kit_TooMany _) kitAny_nil))))) ?_)
      replace d_found_ := D.mo d_found_ e
      replace d_handed_ := D.mo d_handed_ e
      replace d_marks_ := D.mo d_marks_ e
      replace d_order_ := D.mo d_order_ e
      replace d_web_ := D.mo d_web_ e
      have es33 := es32.trans e
      refine y_nil ?_
      refine k_lstk (K := K) (xs := ([t29, (sub_Held er.cls || (sub_NoCut er.cls || (sub_NoForm er.cls || (sub_NoHand er.cls || (sub_NoneYet er.cls || (sub_NoNumber er.cls || (sub_NoText er.cls || false))))))), (sub_NoNote er.cls || (sub_NoPlace er.cls || (sub_Over er.cls || (sub_RowError er.cls || (sub_TooMany er.cls || false)))))] : (List Bool))) z (DqAll.cons (Dq.bl _) (DqAll.cons (Dq.bl _) (DqAll.cons (Dq.bl _) DqAll.nil))) (by show 3 ≤ sizeLine; decide) (fun H p34 ws35 z d36 => ?_)
      replace z : Zs ([(p34, HO.lst ws35)] ++ amb) H Ho := z
      have o37 := OL.mk (p := p34) d36
      refine l_fr o37 z (fun Ho e z d38 => ?_)
      replace d_found_ := D.mo d_found_ e
      replace d_handed_ := D.mo d_handed_ e
      replace d_marks_ := D.mo d_marks_ e
      replace d_order_ := D.mo d_order_ e
      replace d_web_ := D.mo d_web_ e
      have es39 := es33.trans e
      refine l_d (K := K) (Ho := Ho) hw d38 (fun marks_ v_marks_ d_marks_ hw => ?_)
      exact (run_ret hw) _ _ _ es39 ⟨_, _, _, rfl, z, d_found_, d_marks_⟩
    intro s σ H Ho e hI hw
    obtain ⟨found_, marks_⟩ := s
    obtain ⟨v_found_, v_marks_, y_e_, rfl, z, d_found_, d_marks_⟩ := hI
    replace d_handed_ := D.mo d_handed_ e
    replace d_order_ := D.mo d_order_ e
    replace d_web_ := D.mo d_web_ e
    have es40 := es20.trans e
    refine y_ifS ?_
    refine y_test ?_
    refine y_op ?_
    refine y_var rfl ?_
    refine k_tup ?_
    refine y_cons ?_
    refine y_var rfl ?_
    refine y_cons ?_
    refine y_var rfl ?_
    refine y_nil ?_
    refine k_tupk (K := K) (x := (web_, order_)) z (by show 2 ≤ sizeLine; decide) _ rfl (DqAll.cons d_web_ (DqAll.cons d_order_ DqAll.nil)) (fun p H Ho e z d41 => ?_)
    replace d_found_ := D.mo d_found_ e
    replace d_marks_ := D.mo d_marks_ e
    replace d_order_ := D.mo d_order_ e
    replace d_web_ := D.mo d_web_ e
    replace d_handed_ := D.mo d_handed_ e
    have es42 := es40.trans e
    refine y_neD (D.mo d_handed_ z.le) (D.mo d41 z.le) hw.1 ?_
    replace hw := (run_gd hw).2
    refine ⟨_, rfl, ?_⟩
    refine y_cases hw (fun hb hw => ?_) (fun hb hw => ?_)
    · refine y_ret ?_
      refine y_c ?_
      exact (run_ret hw) _ _ _ es42 z (Dq.bl _)
    · refine y_nxS ?_
      refine y_ifS ?_
      refine y_test ?_
      refine y_op ?_
      refine y_cb ?_
      refine y_cons ?_
      refine y_var rfl ?_
      refine y_nil ?_
      refine y_sortI (LV.of d_order_) z (fun H p43 ws44 z d45 => ?_)
      replace z : Zs ([(p43, HO.lst ws44)] ++ amb) H Ho := z
      have o46 := OL.mk (p := p43) d45
      refine k_lstRg ?_
      refine y_rg1 ?_
      refine y_cb ?_
      refine y_cons ?_
      refine y_var rfl ?_
      refine y_nil ?_
      refine y_len (LV.of d_web_) z ?_
      refine ⟨_, rfl, k_listR (K := K) (Ho := Ho) z hw.1 (fun H p47 ws48 z d49 => ?_)⟩
      replace hw := (run_gd hw).2
      replace z : Zs ([(p47, HO.lst ws48)] ++ ([(p43, HO.lst ws44)] ++ amb)) H Ho := z
      have o50 := OL.mk (p := p47) d49
      refine y_neD (LV.dp (OL.lv o46 (mgS mg0)) z) (LV.dp (OL.lv o50 mg0) z) hw.1 ?_
      replace hw := (run_gd hw).2
      refine ⟨_, rfl, ?_⟩
      refine y_cases hw (fun hb hw => ?_) (fun hb hw => ?_)
      · replace z : Zs amb _ _ := z.go [[(p47, HO.lst ws48)], [(p43, HO.lst ws44)]] amb []
        refine y_ret ?_
        refine y_op ?_
        refine y_var rfl ?_
        refine k_lst ?_
        refine y_cons ?_
        refine y_c ?_
        refine y_cons ?_
        refine y_c ?_
        refine y_cons ?_
        refine y_c ?_
        refine y_nil ?_
        refine k_lstk (K := K) (xs := ([true, false, false] : (List Bool))) z (DqAll.cons (Dq.bl _) (DqAll.cons (Dq.bl _) (DqAll.cons (Dq.bl _) DqAll.nil))) (by show 3 ≤ sizeLine; decide) (fun H p51 ws52 z d53 => ?_)
        replace z : Zs ([(p51, HO.lst ws52)] ++ amb) H Ho := z
        have o54 := OL.mk (p := p51) d53
        refine y_eqD (D.mo d_marks_ z.le) (LV.dp (OL.lv o54 mg0) z) hw.1 ?_
        replace hw := (run_gd hw).2
        replace z : Zs amb _ _ := z.go [[(p51, HO.lst ws52)]] amb []
        exact (run_ret hw) _ _ _ es42 z (Dq.bl _)
      · refine y_nxS ?_
        replace z : Zs amb _ _ := z.go [[(p47, HO.lst ws48)], [(p43, HO.lst ws44)]] amb []
        refine y_ret ?_
        refine y_andV ?_
        refine y_cb ?_
        refine y_cons ?_
        refine y_var rfl ?_
        refine y_cons (y_c (y_nil ?_))
        refine y_isiO (D.mo d_found_ z.le) (b := true) (b' := false) (by decide +kernel) (by decide +kernel) ?_
        refine ⟨_, rfl, ?_⟩
        refine w_andVJ hw (fun (s : Bool) (v : V) (H2 : Hp) => ∃ (Ho2 : Hp), Same Ho Ho2 ∧ Zs amb H2 Ho2 ∧ v = V.bl s) (fun hb hw => ?_) (fun hb hw => ?_) ?_
        · refine y_op ?_
          refine y_var rfl ?_
          refine y_call ?_
          refine y_cons ?_
          refine y_var rfl ?_
          refine y_cons ?_
          refine y_var rfl ?_
          refine y_nil ?_
          refine ⟨amb, _, _, _, _, _, rfl, z, (LV.of d_web_), (LV.of d_order_), ?_⟩
          refine run_mono' (run_b hw) (fun t55 hw v H Ho e z d56 => ?_)
          replace d_found_ := D.mo d_found_ e
          replace d_order_ := D.mo d_order_ e
          replace d_web_ := D.mo d_web_ e
          have es58 := (Same.refl _).trans e
          obtain rfl := d_bool d56
          refine y_eqD (D.mo d_found_ z.le) (Dq.bl _) hw.1 ?_
          replace hw := (run_gd hw).2
          exact (run_ret hw) _ _ ⟨_, es58, z, rfl⟩
        · exact (run_ret hw) _ _ ⟨_, (Same.refl _), z, rfl⟩
        rintro t59 v H ⟨Ho, e, z, rfl⟩ hw
        replace d_found_ := D.mo d_found_ e
        replace d_order_ := D.mo d_order_ e
        replace d_web_ := D.mo d_web_ e
        have es61 := es42.trans e
        exact (run_ret hw) _ _ _ es61 z (Dq.bl _)
def sp_law (K : PySem.W.Frag) (cl : Nat → Addr) : Sp := fun vs H Q E => ∃ (amb : Grp) (Ho : Hp) (v0 : V) (x0 : (List Int)), vs = [v0] ∧ Zs amb H Ho ∧ LV K amb Ho v0 x0 ∧ (m_law x0).run fun r => ∀ v H' Ho', Same Ho Ho' → Zs amb H' Ho' → Z.D K Ho' v r → Q v H'
abbrev s_law : Stmt := topS 31
theorem sc_law : FnScope ["script", "spring", "kinds", "again", "web", "kind"] ["script"] (defScope s_law) := ⟨rfl, rfl, rfl, by decide +kernel, rfl, by decide +kernel, by decide +kernel⟩
theorem ok_law {f : Addr} {fd : FuncData} (F : Fun K "law" "law" s_law f fd) {f_law_spring : Addr} {fd_law_spring : FuncData} (c_law_spring : Cal P w K mg base CX0 "_law_spring" ["script"] 1 (sp_law_spring K cl) f_law_spring fd_law_spring) {f_law_draw : Addr} {fd_law_draw : FuncData} (c_law_draw : Cal P w K mg base CX0 "_law_draw" ["spring", "many"] 1 (sp_law_draw K cl) f_law_draw fd_law_draw) {f_law_web : Addr} {fd_law_web : FuncData} (c_law_web : Cal P w K mg base CX0 "_law_web" ["spring", "most"] 2 (sp_law_web K cl) f_law_web fd_law_web) {f_law_right : Addr} {fd_law_right : FuncData} (c_law_right : Cal P w K mg base CX0 "_law_right" ["web", "order"] 4 (sp_law_right K cl) f_law_right fd_law_right) {f_law_bent : Addr} {fd_law_bent : FuncData} (c_law_bent : Cal P w K mg base CX0 "_law_bent" ["spring", "order", "kind"] 3 (sp_law_bent K cl) f_law_bent fd_law_bent) {f_law_free_order : Addr} {fd_law_free_order : FuncData} (c_law_free_order : Cal P w K mg base CX0 "_law_free_order" ["spring", "web"] 3 (sp_law_free_order K cl) f_law_free_order fd_law_free_order) (m_len : mg "len" = none) (m_min : mg "min" = none) (m_range : mg "range" = none) :
    FnOk P w K mg base CX0 5 f fd ["script"] (sp_law K cl) := by
  refine F.ok sc_law (fun vs H Q E h => ?_) (fun cdv A outer s H vs Q E hr h => ?_)
  · obtain ⟨amb, Ho, v_script_, script_, rfl, _⟩ := h
    rfl
  · obtain ⟨amb, Ho, v_script_, script_, rfl, z, d_script_, hw⟩ := h
    refine ⟨_, pss_cons (ps_set (i := 1) sc_law.nd rfl (Or.inr rfl) (pe_call c_law_spring.ok (hr.mono (by decide)) (by rfl) c_law_spring.g c_law_spring.kp c_law_spring.b .nil pass0 (pa_cons (pv 0) (pa_nil)))) (pss_cons (ps_setLc (i := 2) (own := [("again", 3)]) rfl sc_law.nd rfl rfl (sw_true rfl rfl rfl (by decide +kernel)) (pi_range1 (by rfl) m_range (pa_cons (pe_op op_add (pe_int) (pe_callB (call_min2 rfl) (by rfl) m_min (by decide +kernel) (pa_cons (pe_callB (zlen (K := K) rfl) (by rfl) m_len (by decide +kernel) (pa_cons (pv 0) (pa_nil))) (pa_cons (pe_int) (pa_nil))))) (pa_nil))) (blkOk_by (N := ["script", "spring", "kinds", "again", "web", "kind"]) (sc := defScope s_law) (by decide +kernel)) (fun _ _ _ _ _ => pg_name (i := 3) sc_law.nd rfl (Or.inl rfl)) (fun _ _ _ _ _ => pts_nil) (fun _ _ _ _ _ => pe_call c_law_draw.ok (hr.mono (by decide)) (by rfl) c_law_draw.g c_law_draw.kp c_law_draw.b .nil pass0 (pa_cons (pv 1) (pa_cons (pe_int) (pa_nil))))) (pss_cons (ps_set (i := 4) sc_law.nd rfl (Or.inl rfl) (pe_call c_law_web.ok (hr.mono (by decide)) (by rfl) c_law_web.g c_law_web.kp c_law_web.b .nil pass0 (pa_cons (pv 1) (pa_cons (pe_int) (pa_nil))))) (pss_cons (ps_for PassesOwn.never rfl (zpi_list (K := K) rfl (pv 2)) (pg_name (i := 5) sc_law.nd rfl (Or.inl rfl)) (pss_cons (ps_if (pt_not (pt_val (pe_call c_law_right.ok (hr.mono (by decide)) (by rfl) c_law_right.g c_law_right.kp c_law_right.b .nil pass0 (pa_cons (pv 4) (pa_cons (pe_call c_law_bent.ok (hr.mono (by decide)) (by rfl) c_law_bent.g c_law_bent.kp c_law_bent.b .nil pass0 (pa_cons (pv 1) (pa_cons (pe_call c_law_free_order.ok (hr.mono (by decide)) (by rfl) c_law_free_order.g c_law_free_order.kp c_law_free_order.b .nil pass0 (pa_cons (pv 1) (pa_cons (pv 4) (pa_nil)))) (pa_cons (pv 5) (pa_nil))))) (pa_nil)))))) (pss_cons (ps_ret (pe_bl)) (pss_nil)) (pss_nil)) (pss_nil))) (pss_cons (ps_ret (pe_bl)) (pss_nil))))), ?_⟩
    refine l_asg (fun v => [_, some v, _, _, _, _]) (fun _ => rfl) ?_
    refine y_call ?_
    refine y_cons ?_
    refine y_var rfl ?_
    refine y_nil ?_
    refine ⟨amb, _, _, _, rfl, z, (LV.sub d_script_ mgE), ?_⟩
    refine run_mono' (run_b hw) (fun t1 hw v g3 H Ho e z d2 => ?_)
    replace d_script_ := LV.mo d_script_ e
    have es4 := (Same.refl _).trans e
    refine h_o hw z d2 (fun spring_ v_spring_ g_spring_ z d_spring_ hw => ?_)
    refine l_asg (fun v => [_, _, some v, _, _, _]) (fun _ => rfl) ?_
    refine y_lc ?_
    refine k_iR1 ?_
    refine y_cons ?_
    refine y_op ?_
    refine y_c ?_
    refine y_cb ?_
    refine y_cons ?_
    refine y_cb ?_
    refine y_cons ?_
    refine y_var rfl ?_
    refine y_nil ?_
    refine y_len (LV.sub d_script_ (mgS mgE)) z ?_
    refine y_cons ?_
    refine y_c ?_
    refine y_nil ?_
    refine ⟨_, _, rfl, ?_⟩
    refine y_i0 ?_
    refine y_nil ?_
    refine k_srcR1 (K := K) (Ho := Ho) hw.1 (fun J T => ?_)
    replace hw := (run_gd hw).2
    refine y_lcS z T hw (fun (r5 : Addr × HO) (s : (H3 Int Int Int)) (H2 Ho2 : Hp) => ∃ (g_spring_ : Grp), OH K Ho2 v_spring_ s g_spring_ ∧ Zs ([r5] ++ (g_spring_ ++ amb)) H2 Ho2) (fun r H z => ⟨_, d_spring_, z⟩) ?_ ?_ ?_ ?_ ?_
    · rintro r s H Ho ⟨g_spring_, d_spring_, z⟩
      exact ⟨_, z, fun r m => mgN r m⟩
    · rintro r s H Ho H2 Ho2 ⟨g_spring_, d_spring_, z⟩ e t
      exact ⟨_, OH.mo d_spring_ e, t _ z⟩
    · rintro p o o' s H Ho ⟨g_spring_, d_spring_, z⟩
      exact ⟨_, d_spring_, Zs.put z⟩
    · intro r5 again_ v_again_ spring_ H Ho N N' e hI d_again_ hw
      obtain ⟨g_spring_, d_spring_, z⟩ := hI
      replace d_script_ := LV.mo d_script_ e
      have es6 := es4.trans e
      obtain rfl := d_int d_again_
      refine y_gname (σ' := [some v_script_, some v_spring_, none, some (V.int again_), none, none]) rfl ?_
      refine ⟨rfl, ?_⟩
      refine y_yes (w_t ?_)
      refine y_call ?_
      refine y_cons ?_
      refine y_var rfl ?_
      refine y_cons ?_
      refine y_c ?_
      refine y_nil ?_
      replace z : Zs (g_spring_ ++ ([r5] ++ amb)) _ _ := z.go [[r5], g_spring_] amb [1, 0]
      refine ⟨([r5] ++ amb), _, _, _, _, _, _, rfl, z, d_spring_, (Dq.int _), ?_⟩
      refine run_mono2 hw (fun t7 spring_ hw v g_spring_ H Ho e z d8 d_spring_ => ?_)
      replace d8 : Z.D K Ho v t7 := d8
      replace d_spring_ : OH K Ho v_spring_ spring_ g_spring_ := d_spring_
      replace d_script_ := LV.mo d_script_ e
      have es10 := (Same.refl _).trans e
      obtain rfl := d_int d8
      replace z : Zs ([r5] ++ (g_spring_ ++ amb)) _ _ := z.go [g_spring_, [r5]] amb [1, 0]
      exact (run_ret hw) _ _ _ es10 ⟨_, d_spring_, z⟩ (Dq.int _)
    rintro t14 spring_ p11 ws12 H Ho e ⟨g_spring_, d_spring_, z⟩ d13 hw
    replace d_script_ := LV.mo d_script_ e
    have es15 := es4.trans e
    replace z : Zs ([(p11, HO.lst ws12)] ++ (g_spring_ ++ amb)) H Ho := z
    have o16 := OL.mk (p := p11) d13
    refine l_fr o16 z (fun Ho e z d17 => ?_)
    replace d_spring_ := OH.mo d_spring_ e
    have es18 := es15.trans e
    refine l_d (K := K) (Ho := Ho) hw d17 (fun kinds_ v_kinds_ d_kinds_ hw => ?_)
    refine l_asg (fun v => [_, _, _, _, some v, _]) (fun _ => rfl) ?_
    refine y_call ?_
    refine y_cons ?_
    refine y_var rfl ?_
    refine y_cons ?_
    refine y_c ?_
    refine y_nil ?_
    refine ⟨amb, _, _, _, _, _, _, rfl, z, d_spring_, (Dq.int _), ?_⟩
    refine run_mono2 hw (fun t19 spring_ hw v g_spring_ H Ho e z d20 d_spring_ => ?_)
    replace d20 : Z.D K Ho v t19 := d20
    replace d_spring_ : OH K Ho v_spring_ spring_ g_spring_ := d_spring_
    replace d_kinds_ := D.mo d_kinds_ e
    have es22 := es18.trans e
    refine l_d (K := K) (Ho := Ho) hw d20 (fun web_ v_web_ d_web_ hw => ?_)
    refine y_for ?_
    refine k_iList ?_
    refine y_var rfl ?_
    refine k_srcL (r0 := ([] : Grp)) (LV.of d_kinds_) mgN z (fun J T => ?_)
    refine y_forC T hw (fun (s : (H3 Int Int Int)) (σ : L2.St) (H Ho : Hp) => ∃ (g_spring_ : Grp) (y_kind_ : Option V), σ = [some v_script_, some v_spring_, some v_kinds_, none, some v_web_, y_kind_] ∧ Zs (g_spring_ ++ amb) H Ho ∧ OH K Ho v_spring_ s g_spring_) ⟨_, _, rfl, z, d_spring_⟩ ?_ ?_ ?_ ?_
    · intro s σ H Ho hI
      obtain ⟨g_spring_, y_kind_, rfl, z, d_spring_⟩ := hI
      exact ⟨_, z, mgN⟩
    · intro s σ H Ho H2 Ho2 hI e t
      obtain ⟨g_spring_, y_kind_, rfl, z, d_spring_⟩ := hI
      exact ⟨_, _, rfl, t _ z, OH.mo d_spring_ e⟩
    · intro kind_ v_kind_ s σ H Ho N B e hI d_kind_ hw
      obtain ⟨spring_, rfl⟩ : ∃ q, q = s := ⟨_, rfl⟩
      obtain ⟨g_spring_, y_kind_, rfl, z, d_spring_⟩ := hI
      replace d_web_ := D.mo d_web_ e
      have es23 := es22.trans e
      obtain rfl := d_int d_kind_
      refine y_gname (σ' := [some v_script_, some v_spring_, some v_kinds_, none, some v_web_, some (V.int kind_)]) rfl ?_
      refine y_ifS ?_
      refine y_not ?_
      refine y_tB ?_
      refine y_call ?_
      refine y_cons ?_
      refine y_var rfl ?_
      refine y_cons ?_
      refine y_call ?_
      refine y_cons ?_
      refine y_var rfl ?_
      refine y_cons ?_
      refine y_call ?_
      refine y_cons ?_
      refine y_var rfl ?_
      refine y_cons ?_
      refine y_var rfl ?_
      refine y_nil ?_
      refine ⟨amb, _, _, _, _, _, _, rfl, z, d_spring_, (LV.of d_web_), ?_⟩
      refine run_mono2 hw (fun t24 spring_ hw v g_spring_ H Ho e z d25 d_spring_ => ?_)
      replace d25 : Z.D K Ho v t24 := d25
      replace d_spring_ : OH K Ho v_spring_ spring_ g_spring_ := d_spring_
      replace d_web_ := D.mo d_web_ e
      have es27 := (Same.refl _).trans e
      refine y_cons ?_
      refine y_var rfl ?_
      refine y_nil ?_
      refine ⟨amb, _, _, _, _, _, _, _, _, rfl, z, d_spring_, d25, (Dq.int _), ?_⟩
      refine run_mono2 hw (fun t28 spring_ hw v g_spring_ H Ho e z d29 d_spring_ => ?_)
      replace d29 : Z.D K Ho v t28 := d29
      replace d_spring_ : OH K Ho v_spring_ spring_ g_spring_ := d_spring_
      replace d_web_ := D.mo d_web_ e
      have es31 := es27.trans e
      refine y_nil ?_
      refine ⟨(g_spring_ ++ amb), _, _, _, _, _, rfl, z, d_web_, d29, ?_⟩
      refine run_mono' (run_b hw) (fun t32 hw v H Ho e z d33 => ?_)
      replace d_spring_ := OH.mo d_spring_ e
      replace d_web_ := D.mo d_web_ e
      have es35 := es31.trans e
      obtain rfl := d_bool d33
      refine ⟨_, rfl, ?_⟩
      refine y_cases hw (fun hb hw => ?_) (fun hb hw => ?_)
      · refine y_ret ?_
        refine y_c ?_
        replace z : Zs amb _ _ := z.go [g_spring_] amb []
        exact (ctl_rt (run_ret hw)) _ _ _ (es23.trans es35) z (Dq.bl _)
      · refine y_nxS ?_
        exact ctl_nx (run_ret hw) _ _ _ es35 ⟨_, _, rfl, z, d_spring_⟩
    intro s σ H Ho e hI hw
    obtain ⟨spring_, rfl⟩ : ∃ q, q = s := ⟨_, rfl⟩
    obtain ⟨g_spring_, y_kind_, rfl, z, d_spring_⟩ := hI
    have es36 := es22.trans e
    refine y_ret ?_
    refine y_c ?_
    replace z : Zs amb _ _ := z.go [g_spring_] amb []
    exact (run_ret hw) _ _ _ es36 z (Dq.bl _)
end
def spLaw (K : PySem.W.Frag) : Sp := fun vs H Q _ => ∃ (a : Addr) (ns : List Int), vs = [.ref a] ∧ SqL K H a (ns.map V.int) ∧ ns.length ≤ 63 ∧ ∀ H', Q (.bl true) H'
def clx (q_NoOrder : Addr) : Nat → Addr
  | 0 => q_NoOrder
  | _ => q_NoOrder
theorem all_mk {l : PySem.W.OpenLaw} {w : World} {K : PySem.W.Frag} {h : Heap} {mg : Str → Option Value} {fa : Addr} (X : K.In h) (G : h.Ns mainGlobals mg) (hfa : mg "law" = some (.ref fa))
    {f1 : Addr} {od1 an1 : Option Addr} {sl1 : Array (Option Value)} {oc1 kV1 dc1 pm1 cd1 ct1 : Value}
    (a1 : PySem.W.nsIn K mainGlobals "touches_meet" = some (some (.ref f1)))
    (l1 : K.lookup f1 = some ⟨oc1, od1, .func (PySem.W.fnOf "touches_meet" "touches_meet" (defArgs s_touches_meet) (defBody s_touches_meet) (defScope s_touches_meet) .none kV1 dc1 pm1 an1 cd1 ct1), sl1⟩)
    (c1 : PySem.W.codeIn K cd1 "touches_meet" = true) (k1 : PySem.W.keepIn K (.ref f1) = true)
    {f2 : Addr} {od2 an2 : Option Addr} {sl2 : Array (Option Value)} {oc2 kV2 dc2 pm2 cd2 ct2 : Value}
    (a2 : PySem.W.nsIn K mainGlobals "is_step" = some (some (.ref f2)))
    (l2 : K.lookup f2 = some ⟨oc2, od2, .func (PySem.W.fnOf "is_step" "is_step" (defArgs s_is_step) (defBody s_is_step) (defScope s_is_step) .none kV2 dc2 pm2 an2 cd2 ct2), sl2⟩)
    (c2 : PySem.W.codeIn K cd2 "is_step" = true) (k2 : PySem.W.keepIn K (.ref f2) = true)
    {f3 : Addr} {od3 an3 : Option Addr} {sl3 : Array (Option Value)} {oc3 kV3 dc3 pm3 cd3 ct3 : Value}
    (a3 : PySem.W.nsIn K mainGlobals "stands_of" = some (some (.ref f3)))
    (l3 : K.lookup f3 = some ⟨oc3, od3, .func (PySem.W.fnOf "stands_of" "stands_of" (defArgs s_stands_of) (defBody s_stands_of) (defScope s_stands_of) .none kV3 dc3 pm3 an3 cd3 ct3), sl3⟩)
    (c3 : PySem.W.codeIn K cd3 "stands_of" = true) (k3 : PySem.W.keepIn K (.ref f3) = true)
    {f4 : Addr} {od4 an4 : Option Addr} {sl4 : Array (Option Value)} {oc4 kV4 dc4 pm4 cd4 ct4 : Value}
    (a4 : PySem.W.nsIn K mainGlobals "same_run" = some (some (.ref f4)))
    (l4 : K.lookup f4 = some ⟨oc4, od4, .func (PySem.W.fnOf "same_run" "same_run" (defArgs s_same_run) (defBody s_same_run) (defScope s_same_run) .none kV4 dc4 pm4 an4 cd4 ct4), sl4⟩)
    (c4 : PySem.W.codeIn K cd4 "same_run" = true) (k4 : PySem.W.keepIn K (.ref f4) = true)
    {f5 : Addr} {od5 an5 : Option Addr} {sl5 : Array (Option Value)} {oc5 kV5 dc5 pm5 cd5 ct5 : Value}
    (a5 : PySem.W.nsIn K mainGlobals "_law_spring" = some (some (.ref f5)))
    (l5 : K.lookup f5 = some ⟨oc5, od5, .func (PySem.W.fnOf "_law_spring" "_law_spring" (defArgs s_law_spring) (defBody s_law_spring) (defScope s_law_spring) .none kV5 dc5 pm5 an5 cd5 ct5), sl5⟩)
    (c5 : PySem.W.codeIn K cd5 "_law_spring" = true) (k5 : PySem.W.keepIn K (.ref f5) = true)
    {f6 : Addr} {od6 an6 : Option Addr} {sl6 : Array (Option Value)} {oc6 kV6 dc6 pm6 cd6 ct6 : Value}
    (a6 : PySem.W.nsIn K mainGlobals "_law_draw" = some (some (.ref f6)))
    (l6 : K.lookup f6 = some ⟨oc6, od6, .func (PySem.W.fnOf "_law_draw" "_law_draw" (defArgs s_law_draw) (defBody s_law_draw) (defScope s_law_draw) .none kV6 dc6 pm6 an6 cd6 ct6), sl6⟩)
    (c6 : PySem.W.codeIn K cd6 "_law_draw" = true) (k6 : PySem.W.keepIn K (.ref f6) = true)
    {f7 : Addr} {od7 an7 : Option Addr} {sl7 : Array (Option Value)} {oc7 kV7 dc7 pm7 cd7 ct7 : Value}
    (a7 : PySem.W.nsIn K mainGlobals "_law_web" = some (some (.ref f7)))
    (l7 : K.lookup f7 = some ⟨oc7, od7, .func (PySem.W.fnOf "_law_web" "_law_web" (defArgs s_law_web) (defBody s_law_web) (defScope s_law_web) .none kV7 dc7 pm7 an7 cd7 ct7), sl7⟩)
    (c7 : PySem.W.codeIn K cd7 "_law_web" = true) (k7 : PySem.W.keepIn K (.ref f7) = true)
    {f8 : Addr} {od8 an8 : Option Addr} {sl8 : Array (Option Value)} {oc8 kV8 dc8 pm8 cd8 ct8 : Value}
    (a8 : PySem.W.nsIn K mainGlobals "_law_meets" = some (some (.ref f8)))
    (l8 : K.lookup f8 = some ⟨oc8, od8, .func (PySem.W.fnOf "_law_meets" "_law_meets" (defArgs s_law_meets) (defBody s_law_meets) (defScope s_law_meets) .none kV8 dc8 pm8 an8 cd8 ct8), sl8⟩)
    (c8 : PySem.W.codeIn K cd8 "_law_meets" = true) (k8 : PySem.W.keepIn K (.ref f8) = true)
    {f9 : Addr} {od9 an9 : Option Addr} {sl9 : Array (Option Value)} {oc9 kV9 dc9 pm9 cd9 ct9 : Value}
    (a9 : PySem.W.nsIn K mainGlobals "_law_step" = some (some (.ref f9)))
    (l9 : K.lookup f9 = some ⟨oc9, od9, .func (PySem.W.fnOf "_law_step" "_law_step" (defArgs s_law_step) (defBody s_law_step) (defScope s_law_step) .none kV9 dc9 pm9 an9 cd9 ct9), sl9⟩)
    (c9 : PySem.W.codeIn K cd9 "_law_step" = true) (k9 : PySem.W.keepIn K (.ref f9) = true)
    {f10 : Addr} {od10 an10 : Option Addr} {sl10 : Array (Option Value)} {oc10 kV10 dc10 pm10 cd10 ct10 : Value}
    (a10 : PySem.W.nsIn K mainGlobals "_law_free_order" = some (some (.ref f10)))
    (l10 : K.lookup f10 = some ⟨oc10, od10, .func (PySem.W.fnOf "_law_free_order" "_law_free_order" (defArgs s_law_free_order) (defBody s_law_free_order) (defScope s_law_free_order) .none kV10 dc10 pm10 an10 cd10 ct10), sl10⟩)
    (c10 : PySem.W.codeIn K cd10 "_law_free_order" = true) (k10 : PySem.W.keepIn K (.ref f10) = true)
    {f11 : Addr} {od11 an11 : Option Addr} {sl11 : Array (Option Value)} {oc11 kV11 dc11 pm11 cd11 ct11 : Value}
    (a11 : PySem.W.nsIn K mainGlobals "_law_dealt" = some (some (.ref f11)))
    (l11 : K.lookup f11 = some ⟨oc11, od11, .func (PySem.W.fnOf "_law_dealt" "_law_dealt" (defArgs s_law_dealt) (defBody s_law_dealt) (defScope s_law_dealt) .none kV11 dc11 pm11 an11 cd11 ct11), sl11⟩)
    (c11 : PySem.W.codeIn K cd11 "_law_dealt" = true) (k11 : PySem.W.keepIn K (.ref f11) = true)
    {f12 : Addr} {od12 an12 : Option Addr} {sl12 : Array (Option Value)} {oc12 kV12 dc12 pm12 cd12 ct12 : Value}
    (a12 : PySem.W.nsIn K mainGlobals "_law_bent" = some (some (.ref f12)))
    (l12 : K.lookup f12 = some ⟨oc12, od12, .func (PySem.W.fnOf "_law_bent" "_law_bent" (defArgs s_law_bent) (defBody s_law_bent) (defScope s_law_bent) .none kV12 dc12 pm12 an12 cd12 ct12), sl12⟩)
    (c12 : PySem.W.codeIn K cd12 "_law_bent" = true) (k12 : PySem.W.keepIn K (.ref f12) = true)
    {f13 : Addr} {od13 an13 : Option Addr} {sl13 : Array (Option Value)} {oc13 kV13 dc13 pm13 cd13 ct13 : Value}
    (a13 : PySem.W.nsIn K mainGlobals "_law_keeps" = some (some (.ref f13)))
    (l13 : K.lookup f13 = some ⟨oc13, od13, .func (PySem.W.fnOf "_law_keeps" "_law_keeps" (defArgs s_law_keeps) (defBody s_law_keeps) (defScope s_law_keeps) .none kV13 dc13 pm13 an13 cd13 ct13), sl13⟩)
    (c13 : PySem.W.codeIn K cd13 "_law_keeps" = true) (k13 : PySem.W.keepIn K (.ref f13) = true)
    {f14 : Addr} {od14 an14 : Option Addr} {sl14 : Array (Option Value)} {oc14 kV14 dc14 pm14 cd14 ct14 : Value}
    (a14 : PySem.W.nsIn K mainGlobals "_law_right" = some (some (.ref f14)))
    (l14 : K.lookup f14 = some ⟨oc14, od14, .func (PySem.W.fnOf "_law_right" "_law_right" (defArgs s_law_right) (defBody s_law_right) (defScope s_law_right) .none kV14 dc14 pm14 an14 cd14 ct14), sl14⟩)
    (c14 : PySem.W.codeIn K cd14 "_law_right" = true) (k14 : PySem.W.keepIn K (.ref f14) = true)
    {f15 : Addr} {od15 an15 : Option Addr} {sl15 : Array (Option Value)} {oc15 kV15 dc15 pm15 cd15 ct15 : Value}
    (a15 : PySem.W.nsIn K mainGlobals "law" = some (some (.ref f15)))
    (l15 : K.lookup f15 = some ⟨oc15, od15, .func (PySem.W.fnOf "law" "law" (defArgs s_law) (defBody s_law) (defScope s_law) .none kV15 dc15 pm15 an15 cd15 ct15), sl15⟩)
    (c15 : PySem.W.codeIn K cd15 "law" = true) (k15 : PySem.W.keepIn K (.ref f15) = true)
    (z_sorted : PySem.W.nsIn K mainGlobals "sorted" = some none)
    (z_len : PySem.W.nsIn K mainGlobals "len" = some none)
    (z_list : PySem.W.nsIn K mainGlobals "list" = some none)
    (z_range : PySem.W.nsIn K mainGlobals "range" = some none)
    (z_abs : PySem.W.nsIn K mainGlobals "abs" = some none)
    (z_int : PySem.W.nsIn K mainGlobals "int" = some none)
    (z_max : PySem.W.nsIn K mainGlobals "max" = some none)
    (z_isinstance : PySem.W.nsIn K mainGlobals "isinstance" = some none)
    (z_ValueError : PySem.W.nsIn K mainGlobals "ValueError" = some none)
    (z_bool : PySem.W.nsIn K mainGlobals "bool" = some none)
    (z_min : PySem.W.nsIn K mainGlobals "min" = some none)
    {q_NoOrder : Addr}
    (h_gc_NoOrder : PySem.W.nsIn K mainGlobals "NoOrder" = some (some (.ref q_NoOrder)))
    {q_NoteError : Addr}
    (h_gc_NoteError : PySem.W.nsIn K mainGlobals "NoteError" = some (some (.ref q_NoteError)))
    {q_Held : Addr}
    (h_gc_Held : PySem.W.nsIn K mainGlobals "Held" = some (some (.ref q_Held)))
    {q_NoCut : Addr}
    (h_gc_NoCut : PySem.W.nsIn K mainGlobals "NoCut" = some (some (.ref q_NoCut)))
    {q_NoForm : Addr}
    (h_gc_NoForm : PySem.W.nsIn K mainGlobals "NoForm" = some (some (.ref q_NoForm)))
    {q_NoHand : Addr}
    (h_gc_NoHand : PySem.W.nsIn K mainGlobals "NoHand" = some (some (.ref q_NoHand)))
    {q_NoneYet : Addr}
    (h_gc_NoneYet : PySem.W.nsIn K mainGlobals "NoneYet" = some (some (.ref q_NoneYet)))
    {q_NoNumber : Addr}
    (h_gc_NoNumber : PySem.W.nsIn K mainGlobals "NoNumber" = some (some (.ref q_NoNumber)))
    {q_NoText : Addr}
    (h_gc_NoText : PySem.W.nsIn K mainGlobals "NoText" = some (some (.ref q_NoText)))
    {q_NoNote : Addr}
    (h_gc_NoNote : PySem.W.nsIn K mainGlobals "NoNote" = some (some (.ref q_NoNote)))
    {q_NoPlace : Addr}
    (h_gc_NoPlace : PySem.W.nsIn K mainGlobals "NoPlace" = some (some (.ref q_NoPlace)))
    {q_Over : Addr}
    (h_gc_Over : PySem.W.nsIn K mainGlobals "Over" = some (some (.ref q_Over)))
    {q_RowError : Addr}
    (h_gc_RowError : PySem.W.nsIn K mainGlobals "RowError" = some (some (.ref q_RowError)))
    {q_TooMany : Addr}
    (h_gc_TooMany : PySem.W.nsIn K mainGlobals "TooMany" = some (some (.ref q_TooMany)))
    (h_xx_NoOrder : PySem.W.excIn K q_NoOrder [.type "ValueError", .type "Exception", .type "BaseException", .type "object"] "ValueError.__new__" = true)
    (h_kk_NoOrder : PySem.W.keepIn K (.ref q_NoOrder) = true)
    (h_ga_NoOrder : PySem.W.findIn K (.ref q_NoOrder) "__getattribute__" = some (some (.builtin "BaseException.__getattribute__")))
    (h_gg_NoOrder : PySem.W.findIn K (.ref q_NoOrder) "__getattr__" = some none)
    (h_cc_NoOrder : PySem.W.findIn K (.ref q_NoOrder) "__class__" = some (some (.builtin "object.__class__")))
    (h_mo_NoOrder : PySem.W.mroIn K q_NoOrder (.type "object") = some true)
    (h_sn : PySem.W.specialIn K (.builtin "object.__class__") "__get__" = some (some (.builtin "getset_descriptor.__get__")))
    (h_tk : PySem.W.takesIn K (.builtin "object.__class__") = some true)
    (h_bb_NoOrder : PySem.W.subIn K (.ref q_NoOrder) (.type "BaseException") = some true)
    (h_bb_NoteError : PySem.W.subIn K (.ref q_NoteError) (.type "BaseException") = some true)
    (h_hd_NoOrder : PySem.W.hasDictIn K q_NoOrder = true)
    (h_hd_NoteError : PySem.W.hasDictIn K q_NoteError = true)
    (h_tt_NoOrder : PySem.W.typeIn K (.ref q_NoOrder) = some (.type "type"))
    (h_tt_NoteError : PySem.W.typeIn K (.ref q_NoteError) = some (.type "type"))
    (h_su_NoOrder_NoteError : PySem.W.subIn K (.ref q_NoOrder) (.ref q_NoteError) = some true)
    (h_kit_NoOrder_NoOrder : PySem.W.kitOne K (.ref q_NoOrder) (.ref q_NoOrder) = some true)
    (h_kitT_NoOrder_ValueError : PySem.W.kitOne K (.ref q_NoOrder) (.type "ValueError") = some true)
    (h_kit_NoOrder_Held : PySem.W.kitOne K (.ref q_NoOrder) (.ref q_Held) = some false)
    (h_kit_NoOrder_NoCut : PySem.W.kitOne K (.ref q_NoOrder) (.ref q_NoCut) = some false)
    (h_kit_NoOrder_NoForm : PySem.W.kitOne K (.ref q_NoOrder) (.ref q_NoForm) = some false)
    (h_kit_NoOrder_NoHand : PySem.W.kitOne K (.ref q_NoOrder) (.ref q_NoHand) = some false)
    (h_kit_NoOrder_NoneYet : PySem.W.kitOne K (.ref q_NoOrder) (.ref q_NoneYet) = some false)
    (h_kit_NoOrder_NoNumber : PySem.W.kitOne K (.ref q_NoOrder) (.ref q_NoNumber) = some false)
    (h_kit_NoOrder_NoText : PySem.W.kitOne K (.ref q_NoOrder) (.ref q_NoText) = some false)
    (h_kit_NoOrder_NoNote : PySem.W.kitOne K (.ref q_NoOrder) (.ref q_NoNote) = some false)
    (h_kit_NoOrder_NoPlace : PySem.W.kitOne K (.ref q_NoOrder) (.ref q_NoPlace) = some false)
    (h_kit_NoOrder_Over : PySem.W.kitOne K (.ref q_NoOrder) (.ref q_Over) = some false)
    (h_kit_NoOrder_RowError : PySem.W.kitOne K (.ref q_NoOrder) (.ref q_RowError) = some false)
    (h_kit_NoOrder_TooMany : PySem.W.kitOne K (.ref q_NoOrder) (.ref q_TooMany) = some false) :
    ∃ fd : FuncData, (∀ (s : Shared) (v : Value), BindsTo s fd ⟨[v], []⟩ [("script", v)]) ∧ ∀ base : Heap, K.In base → base.Ns mainGlobals mg → FnOk l.prog w K mg base CX0 5 fa fd ["script"] (spLaw K) := by
  have e := hfa.symm.trans (PySem.W.mg_of X G a15)
  cases e
  refine ⟨PySem.W.fnOf "law" "law" (defArgs s_law) (defBody s_law) (defScope s_law) .none kV15 dc15 pm15 an15 cd15 ct15, fun s v => .of_eq rfl, fun base _ _ => ?_⟩
  have xx_NoOrder : PySem.W.excIn K ((clx q_NoOrder) 0) [.type "ValueError", .type "Exception", .type "BaseException", .type "object"] "ValueError.__new__" = true := h_xx_NoOrder
  have gc_NoOrder : mg "NoOrder" = some (.ref ((clx q_NoOrder) 0)) := PySem.W.mg_of X G h_gc_NoOrder
  have kk_NoOrder : PySem.W.keepIn K (.ref ((clx q_NoOrder) 0)) = true := h_kk_NoOrder
  have bb_NoOrder : PySem.W.subIn K (.ref ((clx q_NoOrder) 0)) (.type "BaseException") = some true := h_bb_NoOrder
  have tt_NoOrder : PySem.W.typeIn K (.ref ((clx q_NoOrder) 0)) = some (.type "type") := h_tt_NoOrder
  have gc_NoteError : mg "NoteError" = some (.ref q_NoteError) := PySem.W.mg_of X G h_gc_NoteError
  have exm_NoteError : ∀ n, PySem.W.exmOne K (.ref ((clx q_NoOrder) n)) (.ref q_NoteError) = some (sub_NoteError n) := fun n => match n with | 0 => PySem.W.exm_ref h_bb_NoteError h_hd_NoteError h_tt_NoteError h_su_NoOrder_NoteError | n + 1 => PySem.W.exm_ref h_bb_NoteError h_hd_NoteError h_tt_NoteError h_su_NoOrder_NoteError
  have xc : ∀ n, ExcC K ((clx q_NoOrder) n) := fun n => match n with | 0 => ⟨h_ga_NoOrder, h_gg_NoOrder, h_bb_NoOrder, h_hd_NoOrder, h_cc_NoOrder, h_sn, h_tk, h_mo_NoOrder⟩ | n + 1 => ⟨h_ga_NoOrder, h_gg_NoOrder, h_bb_NoOrder, h_hd_NoOrder, h_cc_NoOrder, h_sn, h_tk, h_mo_NoOrder⟩
  have kit_NoOrder : ∀ n, PySem.W.kitOne K (.ref ((clx q_NoOrder) n)) (.ref ((clx q_NoOrder) 0)) = some (sub_NoOrder n) := fun n => match n with | 0 => h_kit_NoOrder_NoOrder | n + 1 => h_kit_NoOrder_NoOrder
  have kitT_ValueError : ∀ n, PySem.W.kitOne K (.ref ((clx q_NoOrder) n)) (.type "ValueError") = some (subT_ValueError n) := fun n => match n with | 0 => h_kitT_NoOrder_ValueError | n + 1 => h_kitT_NoOrder_ValueError
  have kit_Held : ∀ n, PySem.W.kitOne K (.ref ((clx q_NoOrder) n)) (.ref q_Held) = some (sub_Held n) := fun n => match n with | 0 => h_kit_NoOrder_Held | n + 1 => h_kit_NoOrder_Held
  have gc_Held : mg "Held" = some (.ref q_Held) := PySem.W.mg_of X G h_gc_Held
  have kit_NoCut : ∀ n, PySem.W.kitOne K (.ref ((clx q_NoOrder) n)) (.ref q_NoCut) = some (sub_NoCut n) := fun n => match n with | 0 => h_kit_NoOrder_NoCut | n + 1 => h_kit_NoOrder_NoCut
  have gc_NoCut : mg "NoCut" = some (.ref q_NoCut) := PySem.W.mg_of X G h_gc_NoCut
  have kit_NoForm : ∀ n, PySem.W.kitOne K (.ref ((clx q_NoOrder) n)) (.ref q_NoForm) = some (sub_NoForm n) := fun n => match n with | 0 => h_kit_NoOrder_NoForm | n + 1 => h_kit_NoOrder_NoForm
  have gc_NoForm : mg "NoForm" = some (.ref q_NoForm) := PySem.W.mg_of X G h_gc_NoForm
  have kit_NoHand : ∀ n, PySem.W.kitOne K (.ref ((clx q_NoOrder) n)) (.ref q_NoHand) = some (sub_NoHand n) := fun n => match n with | 0 => h_kit_NoOrder_NoHand | n + 1 => h_kit_NoOrder_NoHand
  have gc_NoHand : mg "NoHand" = some (.ref q_NoHand) := PySem.W.mg_of X G h_gc_NoHand
  have kit_NoneYet : ∀ n, PySem.W.kitOne K (.ref ((clx q_NoOrder) n)) (.ref q_NoneYet) = some (sub_NoneYet n) := fun n => match n with | 0 => h_kit_NoOrder_NoneYet | n + 1 => h_kit_NoOrder_NoneYet
  have gc_NoneYet : mg "NoneYet" = some (.ref q_NoneYet) := PySem.W.mg_of X G h_gc_NoneYet
  have kit_NoNumber : ∀ n, PySem.W.kitOne K (.ref ((clx q_NoOrder) n)) (.ref q_NoNumber) = some (sub_NoNumber n) := fun n => match n with | 0 => h_kit_NoOrder_NoNumber | n + 1 => h_kit_NoOrder_NoNumber
  have gc_NoNumber : mg "NoNumber" = some (.ref q_NoNumber) := PySem.W.mg_of X G h_gc_NoNumber
  have kit_NoText : ∀ n, PySem.W.kitOne K (.ref ((clx q_NoOrder) n)) (.ref q_NoText) = some (sub_NoText n) := fun n => match n with | 0 => h_kit_NoOrder_NoText | n + 1 => h_kit_NoOrder_NoText
  have gc_NoText : mg "NoText" = some (.ref q_NoText) := PySem.W.mg_of X G h_gc_NoText
  have kit_NoNote : ∀ n, PySem.W.kitOne K (.ref ((clx q_NoOrder) n)) (.ref q_NoNote) = some (sub_NoNote n) := fun n => match n with | 0 => h_kit_NoOrder_NoNote | n + 1 => h_kit_NoOrder_NoNote
  have gc_NoNote : mg "NoNote" = some (.ref q_NoNote) := PySem.W.mg_of X G h_gc_NoNote
  have kit_NoPlace : ∀ n, PySem.W.kitOne K (.ref ((clx q_NoOrder) n)) (.ref q_NoPlace) = some (sub_NoPlace n) := fun n => match n with | 0 => h_kit_NoOrder_NoPlace | n + 1 => h_kit_NoOrder_NoPlace
  have gc_NoPlace : mg "NoPlace" = some (.ref q_NoPlace) := PySem.W.mg_of X G h_gc_NoPlace
  have kit_Over : ∀ n, PySem.W.kitOne K (.ref ((clx q_NoOrder) n)) (.ref q_Over) = some (sub_Over n) := fun n => match n with | 0 => h_kit_NoOrder_Over | n + 1 => h_kit_NoOrder_Over
  have gc_Over : mg "Over" = some (.ref q_Over) := PySem.W.mg_of X G h_gc_Over
  have kit_RowError : ∀ n, PySem.W.kitOne K (.ref ((clx q_NoOrder) n)) (.ref q_RowError) = some (sub_RowError n) := fun n => match n with | 0 => h_kit_NoOrder_RowError | n + 1 => h_kit_NoOrder_RowError
  have gc_RowError : mg "RowError" = some (.ref q_RowError) := PySem.W.mg_of X G h_gc_RowError
  have kit_TooMany : ∀ n, PySem.W.kitOne K (.ref ((clx q_NoOrder) n)) (.ref q_TooMany) = some (sub_TooMany n) := fun n => match n with | 0 => h_kit_NoOrder_TooMany | n + 1 => h_kit_NoOrder_TooMany
  have gc_TooMany : mg "TooMany" = some (.ref q_TooMany) := PySem.W.mg_of X G h_gc_TooMany
  have F1 := fun_mk (st := s_touches_meet) l1 c1 k1
  have b1 := F1.binds (ps := ["one", "other"]) fun _ _ _ _ _ _ us hl => match us, hl with | [_, _], _ => rfl
  have o1 := ok_touches_meet (cl := (clx q_NoOrder)) (P := l.prog) (w := w) (mg := mg) (base := base) F1 
  have c_touches_meet : Cal l.prog w K mg base CX0 "touches_meet" ["one", "other"] 1 (sp_touches_meet K (clx q_NoOrder)) f1 _ := ⟨o1, PySem.W.mg_of X G a1, k1, b1⟩
  have F2 := fun_mk (st := s_is_step) l2 c2 k2
  have b2 := F2.binds (ps := ["web", "i", "j"]) fun _ _ _ _ _ _ us hl => match us, hl with | [_, _, _], _ => rfl
  have o2 := ok_is_step (cl := (clx q_NoOrder)) (P := l.prog) (w := w) (mg := mg) (base := base) F2 c_touches_meet
  have c_is_step : Cal l.prog w K mg base CX0 "is_step" ["web", "i", "j"] 2 (sp_is_step K (clx q_NoOrder)) f2 _ := ⟨o2, PySem.W.mg_of X G a2, k2, b2⟩
  have F3 := fun_mk (st := s_stands_of) l3 c3 k3
  have b3 := F3.binds (ps := ["web", "order"]) fun _ _ _ _ _ _ us hl => match us, hl with | [_, _], _ => rfl
  have o3 := ok_stands_of (cl := (clx q_NoOrder)) (P := l.prog) (w := w) (mg := mg) (base := base) F3 (PySem.W.mg_none_of X G z_sorted) (PySem.W.mg_none_of X G z_len) (PySem.W.mg_none_of X G z_list) (PySem.W.mg_none_of X G z_range) xx_NoOrder gc_NoOrder kk_NoOrder bb_NoOrder tt_NoOrder
  have c_stands_of : Cal l.prog w K mg base (L2.CX l.prog w) "stands_of" ["web", "order"] 1 (sp_stands_of K (clx q_NoOrder)) f3 _ := ⟨o3, PySem.W.mg_of X G a3, k3, b3⟩
  have F4 := fun_mk (st := s_same_run) l4 c4 k4
  have b4 := F4.binds (ps := ["web", "order"]) fun _ _ _ _ _ _ us hl => match us, hl with | [_, _], _ => rfl
  have o4 := ok_same_run (cl := (clx q_NoOrder)) (P := l.prog) (w := w) (mg := mg) (base := base) F4 c_stands_of c_is_step (PySem.W.mg_none_of X G z_len) (PySem.W.mg_none_of X G z_range)
  have c_same_run : Cal l.prog w K mg base (L2.CX l.prog w) "same_run" ["web", "order"] 3 (sp_same_run K (clx q_NoOrder)) f4 _ := ⟨o4, PySem.W.mg_of X G a4, k4, b4⟩
  have F5 := fun_mk (st := s_law_spring) l5 c5 k5
  have b5 := F5.binds (ps := ["script"]) fun _ _ _ _ _ _ us hl => match us, hl with | [_], _ => rfl
  have o5 := ok_law_spring (cl := (clx q_NoOrder)) (P := l.prog) (w := w) (mg := mg) (base := base) F5 (PySem.W.mg_none_of X G z_abs)
  have c_law_spring : Cal l.prog w K mg base CX0 "_law_spring" ["script"] 1 (sp_law_spring K (clx q_NoOrder)) f5 _ := ⟨o5, PySem.W.mg_of X G a5, k5, b5⟩
  have F6 := fun_mk (st := s_law_draw) l6 c6 k6
  have b6 := F6.binds (ps := ["spring", "many"]) fun _ _ _ _ _ _ us hl => match us, hl with | [_, _], _ => rfl
  have o6 := ok_law_draw (cl := (clx q_NoOrder)) (P := l.prog) (w := w) (mg := mg) (base := base) F6 
  have c_law_draw : Cal l.prog w K mg base CX0 "_law_draw" ["spring", "many"] 1 (sp_law_draw K (clx q_NoOrder)) f6 _ := ⟨o6, PySem.W.mg_of X G a6, k6, b6⟩
  have F7 := fun_mk (st := s_law_web) l7 c7 k7
  have b7 := F7.binds (ps := ["spring", "most"]) fun _ _ _ _ _ _ us hl => match us, hl with | [_, _], _ => rfl
  have o7 := ok_law_web (cl := (clx q_NoOrder)) (P := l.prog) (w := w) (mg := mg) (base := base) F7 c_law_draw (PySem.W.mg_none_of X G z_int) (PySem.W.mg_none_of X G z_range) (PySem.W.mg_none_of X G z_len)
  have c_law_web : Cal l.prog w K mg base CX0 "_law_web" ["spring", "most"] 2 (sp_law_web K (clx q_NoOrder)) f7 _ := ⟨o7, PySem.W.mg_of X G a7, k7, b7⟩
  have F8 := fun_mk (st := s_law_meets) l8 c8 k8
  have b8 := F8.binds (ps := ["one", "other"]) fun _ _ _ _ _ _ us hl => match us, hl with | [_, _], _ => rfl
  have o8 := ok_law_meets (cl := (clx q_NoOrder)) (P := l.prog) (w := w) (mg := mg) (base := base) F8 
  have c_law_meets : Cal l.prog w K mg base CX0 "_law_meets" ["one", "other"] 1 (sp_law_meets K (clx q_NoOrder)) f8 _ := ⟨o8, PySem.W.mg_of X G a8, k8, b8⟩
  have F9 := fun_mk (st := s_law_step) l9 c9 k9
  have b9 := F9.binds (ps := ["one", "other"]) fun _ _ _ _ _ _ us hl => match us, hl with | [_, _], _ => rfl
  have o9 := ok_law_step (cl := (clx q_NoOrder)) (P := l.prog) (w := w) (mg := mg) (base := base) F9 c_law_meets
  have c_law_step : Cal l.prog w K mg base CX0 "_law_step" ["one", "other"] 2 (sp_law_step K (clx q_NoOrder)) f9 _ := ⟨o9, PySem.W.mg_of X G a9, k9, b9⟩
  have F10 := fun_mk (st := s_law_free_order) l10 c10 k10
  have b10 := F10.binds (ps := ["spring", "web"]) fun _ _ _ _ _ _ us hl => match us, hl with | [_, _], _ => rfl
  have o10 := ok_law_free_order (cl := (clx q_NoOrder)) (P := l.prog) (w := w) (mg := mg) (base := base) F10 c_law_step c_law_draw (PySem.W.mg_none_of X G z_len) (PySem.W.mg_none_of X G z_range)
  have c_law_free_order : Cal l.prog w K mg base CX0 "_law_free_order" ["spring", "web"] 3 (sp_law_free_order K (clx q_NoOrder)) f10 _ := ⟨o10, PySem.W.mg_of X G a10, k10, b10⟩
  have F11 := fun_mk (st := s_law_dealt) l11 c11 k11
  have b11 := F11.binds (ps := ["spring", "order"]) fun _ _ _ _ _ _ us hl => match us, hl with | [_, _], _ => rfl
  have o11 := ok_law_dealt (cl := (clx q_NoOrder)) (P := l.prog) (w := w) (mg := mg) (base := base) F11 c_law_draw (PySem.W.mg_none_of X G z_len)
  have c_law_dealt : Cal l.prog w K mg base CX0 "_law_dealt" ["spring", "order"] 2 (sp_law_dealt K (clx q_NoOrder)) f11 _ := ⟨o11, PySem.W.mg_of X G a11, k11, b11⟩
  have F12 := fun_mk (st := s_law_bent) l12 c12 k12
  have b12 := F12.binds (ps := ["spring", "order", "kind"]) fun _ _ _ _ _ _ us hl => match us, hl with | [_, _, _], _ => rfl
  have o12 := ok_law_bent (cl := (clx q_NoOrder)) (P := l.prog) (w := w) (mg := mg) (base := base) F12 c_law_draw c_law_dealt (PySem.W.mg_none_of X G z_len) (PySem.W.mg_none_of X G z_max)
  have c_law_bent : Cal l.prog w K mg base CX0 "_law_bent" ["spring", "order", "kind"] 3 (sp_law_bent K (clx q_NoOrder)) f12 _ := ⟨o12, PySem.W.mg_of X G a12, k12, b12⟩
  have F13 := fun_mk (st := s_law_keeps) l13 c13 k13
  have b13 := F13.binds (ps := ["web", "order"]) fun _ _ _ _ _ _ us hl => match us, hl with | [_, _], _ => rfl
  have o13 := ok_law_keeps (cl := (clx q_NoOrder)) (P := l.prog) (w := w) (mg := mg) (base := base) F13 c_law_step (PySem.W.mg_none_of X G z_len) (PySem.W.mg_none_of X G z_range)
  have c_law_keeps : Cal l.prog w K mg base CX0 "_law_keeps" ["web", "order"] 3 (sp_law_keeps K (clx q_NoOrder)) f13 _ := ⟨o13, PySem.W.mg_of X G a13, k13, b13⟩
  have F14 := fun_mk (st := s_law_right) l14 c14 k14
  have b14 := F14.binds (ps := ["web", "order"]) fun _ _ _ _ _ _ us hl => match us, hl with | [_, _], _ => rfl
  have o14 := ok_law_right (cl := (clx q_NoOrder)) (P := l.prog) (w := w) (mg := mg) (base := base) F14 c_same_run c_law_keeps (PySem.W.mg_none_of X G z_list) (PySem.W.mg_none_of X G z_isinstance) (PySem.W.mg_none_of X G z_ValueError) (PySem.W.mg_none_of X G z_sorted) (PySem.W.mg_none_of X G z_len) (PySem.W.mg_none_of X G z_range) (PySem.W.mg_none_of X G z_bool) gc_NoteError exm_NoteError xc kit_NoOrder gc_NoOrder kitT_ValueError kit_Held gc_Held kit_NoCut gc_NoCut kit_NoForm gc_NoForm kit_NoHand gc_NoHand kit_NoneYet gc_NoneYet kit_NoNumber gc_NoNumber kit_NoText gc_NoText kit_NoNote gc_NoNote kit_NoPlace gc_NoPlace kit_Over gc_Over kit_RowError gc_RowError kit_TooMany gc_TooMany
  have c_law_right : Cal l.prog w K mg base CX0 "_law_right" ["web", "order"] 4 (sp_law_right K (clx q_NoOrder)) f14 _ := ⟨o14, PySem.W.mg_of X G a14, k14, b14⟩
  have F15 := fun_mk (st := s_law) l15 c15 k15
  have b15 := F15.binds (ps := ["script"]) fun _ _ _ _ _ _ us hl => match us, hl with | [_], _ => rfl
  have o15 := ok_law (cl := (clx q_NoOrder)) (P := l.prog) (w := w) (mg := mg) (base := base) F15 c_law_spring c_law_draw c_law_web c_law_right c_law_bent c_law_free_order (PySem.W.mg_none_of X G z_len) (PySem.W.mg_none_of X G z_min) (PySem.W.mg_none_of X G z_range)
  refine FnOk.imp o15 fun vs H Q E hq => ?_
  obtain ⟨a, ns, rfl, hS, hl, q⟩ := hq
  refine ⟨[], H, .ref a, ns, rfl, ⟨Same.refl _, (fun r hr => nomatch hr), List.nodup_nil⟩, ⟨a, _, rfl, ints_dl, .inl hS⟩, run_mono' (law_true hl) fun r hr v H' Ho' e z d => ?_⟩
  subst hr
  rw [d_bool d]
  exact q H'
end M
open PySem PySem.W PyProof.Rows
set_option maxHeartbeats 0 in
theorem PySem.Challenge.cw_fewnotes_k21_orders_of_a_web_holds : PySem.Challenge.rw_fewnotes_k21_orders_of_a_web.Holds := by
  w_on; o_law; k_head; (case hw => w_witness2)
  k_fill
  refine L2.walk_of (l := PySem.Challenge.rw_fewnotes_k21_orders_of_a_web) (n := 63) (k := 5) (x := "script") (CX := fun _ => L2.CX0) (sp := fun w => M.spLaw _) rfl (by decide) rfl ⟨rfl, by decide, by decide⟩ (fun w h Y => PySem.W.kIn_of Y) ?F (fun _ _ a ns hl _ hS => ⟨a, ns, rfl, hS, hl, fun _ => rfl⟩) (fun _ _ _ _ _ h => h)
  case F =>
    intro w mg fa h KX G hmg
    refine' M.all_mk KX G hmg ?a1 ?l1 ?c1 ?k1 ?a2 ?l2 ?c2 ?k2 ?a3 ?l3 ?c3 ?k3 ?a4 ?l4 ?c4 ?k4 ?a5 ?l5 ?c5 ?k5 ?a6 ?l6 ?c6 ?k6 ?a7 ?l7 ?c7 ?k7 ?a8 ?l8 ?c8 ?k8 ?a9 ?l9 ?c9 ?k9 ?a10 ?l10 ?c10 ?k10 ?a11 ?l11 ?c11 ?k11 ?a12 ?l12 ?c12 ?k12 ?a13 ?l13 ?c13 ?k13 ?a14 ?l14 ?c14 ?k14 ?a15 ?l15 ?c15 ?k15 ?z_sorted ?z_len ?z_list ?z_range ?z_abs ?z_int ?z_max ?z_isinstance ?z_ValueError ?z_bool ?z_min ?h_gc_NoOrder ?h_gc_NoteError ?h_gc_Held ?h_gc_NoCut ?h_gc_NoForm ?h_gc_NoHand ?h_gc_NoneYet ?h_gc_NoNumber ?h_gc_NoText ?h_gc_NoNote ?h_gc_NoPlace ?h_gc_Over ?h_gc_RowError ?h_gc_TooMany ?h_xx_NoOrder ?h_kk_NoOrder ?h_ga_NoOrder ?h_gg_NoOrder ?h_cc_NoOrder ?h_mo_NoOrder ?h_sn ?h_tk ?h_bb_NoOrder ?h_bb_NoteError ?h_hd_NoOrder ?h_hd_NoteError ?h_tt_NoOrder ?h_tt_NoteError ?h_su_NoOrder_NoteError ?h_kit_NoOrder_NoOrder ?h_kitT_NoOrder_ValueError ?h_kit_NoOrder_Held ?h_kit_NoOrder_NoCut ?h_kit_NoOrder_NoForm ?h_kit_NoOrder_NoHand ?h_kit_NoOrder_NoneYet ?h_kit_NoOrder_NoNumber ?h_kit_NoOrder_NoText ?h_kit_NoOrder_NoNote ?h_kit_NoOrder_NoPlace ?h_kit_NoOrder_Over ?h_kit_NoOrder_RowError ?h_kit_NoOrder_TooMany
    (case a1 => k_is); (case l1 => k_is); (case c1 => k_is); (case k1 => k_is); (case a2 => k_is); (case l2 => k_is); (case c2 => k_is); (case k2 => k_is); (case a3 => k_is); (case l3 => k_is); (case c3 => k_is); (case k3 => k_is); (case a4 => k_is); (case l4 => k_is); (case c4 => k_is); (case k4 => k_is); (case a5 => k_is); (case l5 => k_is); (case c5 => k_is); (case k5 => k_is); (case a6 => k_is); (case l6 => k_is); (case c6 => k_is); (case k6 => k_is); (case a7 => k_is); (case l7 => k_is); (case c7 => k_is); (case k7 => k_is); (case a8 => k_is); (case l8 => k_is); (case c8 => k_is); (case k8 => k_is); (case a9 => k_is); (case l9 => k_is); (case c9 => k_is); (case k9 => k_is); (case a10 => k_is); (case l10 => k_is); (case c10 => k_is); (case k10 => k_is); (case a11 => k_is); (case l11 => k_is); (case c11 => k_is); (case k11 => k_is); (case a12 => k_is); (case l12 => k_is); (case c12 => k_is); (case k12 => k_is); (case a13 => k_is); (case l13 => k_is); (case c13 => k_is); (case k13 => k_is); (case a14 => k_is); (case l14 => k_is); (case c14 => k_is); (case k14 => k_is); (case a15 => k_is); (case l15 => k_is); (case c15 => k_is); (case k15 => k_is); (case z_sorted => k_is); (case z_len => k_is); (case z_list => k_is); (case z_range => k_is); (case z_abs => k_is); (case z_int => k_is); (case z_max => k_is); (case z_isinstance => k_is); (case z_ValueError => k_is); (case z_bool => k_is); (case z_min => k_is); (case h_gc_NoOrder => k_is); (case h_gc_NoteError => k_is); (case h_gc_Held => k_is); (case h_gc_NoCut => k_is); (case h_gc_NoForm => k_is); (case h_gc_NoHand => k_is); (case h_gc_NoneYet => k_is); (case h_gc_NoNumber => k_is); (case h_gc_NoText => k_is); (case h_gc_NoNote => k_is); (case h_gc_NoPlace => k_is); (case h_gc_Over => k_is); (case h_gc_RowError => k_is); (case h_gc_TooMany => k_is); (case h_xx_NoOrder => k_exc); (case h_kk_NoOrder => k_is); (case h_ga_NoOrder => k_is); (case h_gg_NoOrder => k_is); (case h_cc_NoOrder => k_is); (case h_mo_NoOrder => k_is); (case h_sn => k_is); (case h_tk => k_is); (case h_bb_NoOrder => k_is); (case h_bb_NoteError => k_is); (case h_hd_NoOrder => k_is); (case h_hd_NoteError => k_is); (case h_tt_NoOrder => k_is); (case h_tt_NoteError => k_is); (case h_su_NoOrder_NoteError => first | k_is | rfl); (case h_kit_NoOrder_NoOrder => kit_is); (case h_kitT_NoOrder_ValueError => kit_is); (case h_kit_NoOrder_Held => kit_is); (case h_kit_NoOrder_NoCut => kit_is); (case h_kit_NoOrder_NoForm => kit_is); (case h_kit_NoOrder_NoHand => kit_is); (case h_kit_NoOrder_NoneYet => kit_is); (case h_kit_NoOrder_NoNumber => kit_is); (case h_kit_NoOrder_NoText => kit_is); (case h_kit_NoOrder_NoNote => kit_is); (case h_kit_NoOrder_NoPlace => kit_is); (case h_kit_NoOrder_Over => kit_is); (case h_kit_NoOrder_RowError => kit_is); (case h_kit_NoOrder_TooMany => kit_is)

