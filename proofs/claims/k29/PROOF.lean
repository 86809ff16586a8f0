import PyProof.Rows.All
import Wide.All
import OpenK.AllK
import Wide.FinOn
import HandS.ForMost
import HandS.ForExc
import HandS.Wide
import HandS.IsInst
import HandS.Deep
import HandS.SortKw
import HandS.SortRule
import HandS.TupSets
import HandS.ExcIs
import HandS.TryMany
import HandS.StrMore
import HandS.FStr
import HandS.Strs
import HandS.SetFor
import HandS.ListItems
import HandS.SetKeys
import HandS.TupAny
import HandS.Defaults
import KE.DatumOrd
import HandS.SortInts
import HandS.Conv
import HandS.More
import KE.KDictKeyed
import HandS.Style
import HandS.Iter
import HandS.NoneIn
import OpenK.KOps
import KE.KCallOwn
import HandS.SlotsOwn
import HandS.RaiseMore
import PyProof.InstNe
import HandS.SortOrd
import PySem.Challenge.RW_fewnotes_k29_whole_notes_in_other_orders
set_option Elab.async false
set_option linter.all false
set_option maxRecDepth 100000
set_option maxHeartbeats 4000000
namespace Z
open PySem PySem.Spec PyProof.Rows L2
/-! ### computations by what they promise -/
structure Er where
  cls : Nat
  arg : PyData := .none

structure W (α : Type) where
  go : (α → Prop) → Prop
  mono0 : ∀ (Φ Φ' : α → Prop), (∀ a, Φ a → Φ' a) → go Φ → go Φ'
/-- no projection: two runs are compared by their parts first -/
def W.run {α : Type} (c : W α) (Φ : α → Prop) : Prop := c.go Φ
theorem W.mono {α : Type} (c : W α) (Φ Φ' : α → Prop) (h : ∀ a, Φ a → Φ' a) (q : c.run Φ) : c.run Φ' := c.mono0 Φ Φ' h q

namespace W
variable {α β γ : Type}
def ret (a : α) : W α := ⟨fun Φ => Φ a, fun _ _ h q => h a q⟩
def bind (c : W α) (f : α → W β) : W β := ⟨fun Φ => c.run (fun a => (f a).run Φ), fun Φ Φ' h q => c.mono _ _ (fun a z => (f a).mono _ _ h z) q⟩
def guard (p : Prop) (c : W α) : W α := ⟨fun Φ => p ∧ c.run Φ, fun _ _ h q => ⟨q.1, c.mono _ _ h q.2⟩⟩
def ite (b : Bool) (x y : W α) : W α := ⟨fun Φ => (b = true → x.run Φ) ∧ (b = false → y.run Φ), fun _ _ h q => ⟨fun e => x.mono _ _ h (q.1 e), fun e => y.mono _ _ h (q.2 e)⟩⟩
def opt (o : Option α) : W α := ⟨fun Φ => ∃ a, o = some a ∧ Φ a, fun _ _ h ⟨a, e, q⟩ => ⟨a, e, h a q⟩⟩
def bad : W α := ⟨fun _ => False, fun _ _ _ q => q⟩
end W

/-- an answer, or an error -/
inductive Ex (α : Type) where
  | ok (a : α) | er (e : Er)
/-- how a loop's turn ends -/
inductive Ctl (ρ S : Type) where
  | nx (s : S) | bk (s : S) | rt (r : ρ)

def CtlP {ρ S : Type} (N B : S → Prop) (Φ : ρ → Prop) : Ctl ρ S → Prop
  | .nx s => N s
  | .bk s => B s
  | .rt r => Φ r
theorem ctl_nx {ρ S : Type} {N B : S → Prop} {Φ : ρ → Prop} {s : S} (h : CtlP N B Φ (.nx s)) : N s := h
theorem ctl_bk {ρ S : Type} {N B : S → Prop} {Φ : ρ → Prop} {s : S} (h : CtlP N B Φ (.bk s)) : B s := h
theorem ctl_rt {ρ S : Type} {N B : S → Prop} {Φ : ρ → Prop} {r : ρ} (h : CtlP N B Φ (.rt r)) : Φ r := h
namespace W
variable {α β γ ρ S : Type}
def forL : List α → S → (α → S → W S) → W S
  | [], s, _ => ret s
  | x :: xs, s, f => bind (f x s) fun s' => forL xs s' f
/-- a loop that may be left -/
def forC : List α → S → (α → S → W (Ctl ρ S)) → W (Ctl ρ S)
  | [], s, _ => ret (.nx s)
  | x :: xs, s, f => bind (f x s) fun c => match c with
    | .nx s' => forC xs s' f
    | .bk s' => ret (.nx s')
    | .rt r => ret (.rt r)
def bind2 {α β γ : Type} (c : W (α × β)) (f : α → β → W γ) : W γ := ⟨fun Φ => c.run fun r => (f r.1 r.2).run Φ, fun Φ Φ' h q => c.mono _ _ (fun a z => (f a.1 a.2).mono _ _ h z) q⟩
def bindX {α β : Type} (c : W (Ex α)) (f : α → W (Ex β)) : W (Ex β) := bind c fun r => match r with
  | .ok a => f a
  | .er e => ret (.er e)
def after (c : Ctl ρ S) (k : S → W ρ) : W ρ := match c with
  | .nx s => k s
  | .bk s => k s
  | .rt r => ret r
/-- a while loop: a turn tells whether it is left (bk) -/
def whileN : Nat → S → (S → W (Ctl ρ S)) → W (Ctl ρ S)
  | 0, _, _ => bad
  | n + 1, s, f => bind (f s) fun c => match c with
    | .nx s' => whileN n s' f
    | .bk s' => ret (.nx s')
    | .rt r => ret (.rt r)
def whileL (s : S) (f : S → W (Ctl ρ S)) : W (Ctl ρ S) := ⟨fun Φ => ∃ n, (whileN n s f).run Φ, fun _ _ h ⟨n, q⟩ => ⟨n, (whileN n s f).mono _ _ h q⟩⟩
end W
/-! ### data -/
class Py (α : Type) where
  toPy : α → PyData
abbrev toPy {α : Type} [Py α] (a : α) : PyData := Py.toPy a
structure P3 (α β γ : Type) where
  a : α
  b : β
  c : γ
  deriving DecidableEq
structure P4 (α β γ δ : Type) where
  a : α
  b : β
  c : γ
  d : δ
  deriving DecidableEq
structure P5 (α β γ δ ε : Type) where
  a : α
  b : β
  c : γ
  d : δ
  e : ε
  deriving DecidableEq
/-- a tuple of things of one kind -/
structure Tp (α : Type) where
  l : List α
  deriving DecidableEq
instance : Py Int := ⟨.int⟩
instance : Py Bool := ⟨.bool⟩
instance : Py Str := ⟨.str⟩
instance : Py Unit := ⟨fun _ => .none⟩
instance : Py PyData := ⟨id⟩
instance {α : Type} [Py α] : Py (Option α) := ⟨fun o => match o with | none => .none | some a => toPy a⟩
instance {α : Type} [Py α] : Py (List α) := ⟨fun xs => .list (xs.map Py.toPy)⟩
instance {α : Type} [Py α] : Py (Tp α) := ⟨fun xs => .tuple (xs.l.map Py.toPy)⟩
instance {α β : Type} [Py α] [Py β] : Py (α × β) := ⟨fun p => .tuple [toPy p.1, toPy p.2]⟩
instance {α β γ : Type} [Py α] [Py β] [Py γ] : Py (P3 α β γ) := ⟨fun p => .tuple [toPy p.a, toPy p.b, toPy p.c]⟩
instance {α β γ δ : Type} [Py α] [Py β] [Py γ] [Py δ] : Py (P4 α β γ δ) := ⟨fun p => .tuple [toPy p.a, toPy p.b, toPy p.c, toPy p.d]⟩
instance {α β γ δ ε : Type} [Py α] [Py β] [Py γ] [Py δ] [Py ε] : Py (P5 α β γ δ ε) := ⟨fun p => .tuple [toPy p.a, toPy p.b, toPy p.c, toPy p.d, toPy p.e]⟩
/-! a value is data; each tuple is tracked -/
mutual
inductive Dq (K : PySem.W.Frag) (H : Hp) : V → PyData → Prop
  | non : Dq K H .non .none
  | bl (b : Bool) : Dq K H (.bl b) (.bool b)
  | int (i : Int) : Dq K H (.int i) (.int i)
  | str (x : Str) : Dq K H (.str x) (.str x)
  | lst {a : Addr} {vs : List V} {ds : List PyData} (hs : SqL K H a vs) (hd : DqAll K H vs ds) : Dq K H (.ref a) (.list ds)
  | tup {a : Addr} {vs : List V} {ds : List PyData} (hs : H a = some (.tup vs)) (hd : DqAll K H vs ds) : Dq K H (.ref a) (.tuple ds)
  /-- an instance of a class of the text that stands for good -/
  | ins {a dx C : Addr} {cn : Str} {ns : List Str} {vs : List V} {ds : List PyData} (hC : PySem.W.nsIn K mainGlobals cn = some (some (.ref C))) (hs : H a = some (.ins C dx (ns.zip vs))) (hd : DqAll K H vs ds) : Dq K H (.ref a) (.dict [(.str cn, .list (ns.map .str)), (.none, .tuple ds)])
inductive DqAll (K : PySem.W.Frag) (H : Hp) : List V → List PyData → Prop
  | nil : DqAll K H [] []
  | cons {v : V} {vs : List V} {d : PyData} {ds : List PyData} (h : Dq K H v d) (hs : DqAll K H vs ds) : DqAll K H (v :: vs) (d :: ds)
end
section
variable {K : PySem.W.Frag} {H H' : Hp}
theorem Same.sqT {a : Addr} {xs : List V} (e : Same H H') (h : SqT K H a xs) : SqT K H' a xs := by
  rcases h with (h | ⟨o, h⟩) | h
  · exact .inl (.inl (e _ _ h))
  · exact .inl (.inr ⟨o, e _ _ h⟩)
  · exact .inr h
mutual
theorem dp_mono (e : Same H H') : ∀ (d : PyData) (v : V), Dq K H v d → Dq K H' v d
  | _, _, .non => .non
  | _, _, .bl b => .bl b
  | _, _, .int i => .int i
  | _, _, .str x => .str x
  | _, _, .lst hs ha => .lst (e.seq hs) (dpAll_mono e _ _ ha)
  | _, _, .tup hs ha => .tup (e _ _ hs) (dpAll_mono e _ _ ha)
  | _, _, .ins hC hs ha => .ins hC (e _ _ hs) (dpAll_mono e _ _ ha)
theorem dpAll_mono (e : Same H H') : ∀ (ds : List PyData) (vs : List V), DqAll K H vs ds → DqAll K H' vs ds
  | _, _, .nil => .nil
  | _, _, .cons h1 h2 => .cons (dp_mono e _ _ h1) (dpAll_mono e _ _ h2)
end
mutual
theorem Dq.dp : ∀ (d : PyData) (v : V), d.canLay0 = true → Dq K H v d → Dp K H v d
  | _, _, _, .non => .non
  | _, _, _, .bl b => .bl b
  | _, _, _, .int i => .int i
  | _, _, _, .str x => .str x
  | _, _, g, .lst hs ha => .lst hs (DqAll.dp _ _ (by simpa [PyData.canLay0] using g) ha)
  | _, _, g, .tup hs ha => .tup (SqT.of hs) (DqAll.dp _ _ (by simpa [PyData.canLay0] using g) ha)
  | _, _, g, .ins _ _ _ => by simp [PyData.canLay0] at g
theorem DqAll.dp : ∀ (ds : List PyData) (vs : List V), PyData.canLayAll0 ds = true → DqAll K H vs ds → DpAll K H vs ds
  | _, _, _, .nil => .nil
  | d :: ds, _, g, .cons h1 h2 => by
    have g' : PyData.canLay0 d = true ∧ PyData.canLayAll0 ds = true := by simpa [PyData.canLayAll0] using g
    exact .cons (Dq.dp _ _ g'.1 h1) (DqAll.dp _ _ g'.2 h2)
end
theorem shp {d : PyData} (h : SeqAt.shaped d = true) : d.canLay0 = true := by
  unfold SeqAt.shaped at h
  exact (Bool.and_eq_true _ _ ▸ h).1
end
section
variable {K : PySem.W.Frag} {H H' : Hp} {α : Type} [Py α]
abbrev D (K : PySem.W.Frag) (H : Hp) (v : V) (x : α) : Prop := Dq K H v (toPy x)
abbrev DL (K : PySem.W.Frag) (H : Hp) (vs : List V) (xs : List α) : Prop := DqAll K H vs (xs.map Py.toPy)
theorem D.mo {v : V} {x : α} (h : D K H v x) (e : Same H H') : D K H' v x := dp_mono e _ _ h
theorem DL.mo {vs : List V} {xs : List α} (h : DL K H vs xs) (e : Same H H') : DL K H' vs xs := dpAll_mono e _ _ h
theorem d_int {v : V} {i : Int} (h : D K H v i) : v = .int i := by cases h; rfl
theorem d_bool {v : V} {i : Bool} (h : D K H v i) : v = .bl i := by cases h; rfl
theorem d_str {v : V} {i : Str} (h : D K H v i) : v = .str i := by cases h; rfl
theorem dpAll_len {vs : List V} : ∀ {ds : List PyData}, DqAll K H vs ds → vs.length = ds.length := by
  induction vs with
  | nil => intro ds h; cases h; rfl
  | cons v vs ih => intro ds h; cases h with | cons h1 h2 => simp [ih h2]
theorem DL.len {vs : List V} {xs : List α} (h : DL K H vs xs) : vs.length = xs.length := by
  have := dpAll_len h
  simpa using this
theorem dpAll_get {vs : List V} : ∀ {ds : List PyData} {i : Nat} {d : PyData}, DqAll K H vs ds → ds[i]? = some d → ∃ v, vs[i]? = some v ∧ Dq K H v d := by
  induction vs with
  | nil => intro ds i d h e; cases h; simp at e
  | cons v vs ih =>
    intro ds i d h e
    cases h with
    | cons h1 h2 =>
      cases i with
      | zero => simp at e; subst e; exact ⟨v, rfl, h1⟩
      | succ i => simpa using ih h2 (by simpa using e)
theorem DL.get {vs : List V} {xs : List α} {i : Nat} {x : α} (h : DL K H vs xs) (e : xs[i]? = some x) : ∃ v, vs[i]? = some v ∧ D K H v x :=
  dpAll_get h (by simp [e])
theorem DL.at {vs : List V} {xs : List α} {i : Int} {x : α} (h : DL K H vs xs) (e : atI xs i = some x) : ∃ v, atI vs i = some v ∧ D K H v x := by
  unfold atI at e ⊢
  rw [h.len]
  cases q : ixN xs.length i with
  | none => rw [q] at e; cases e
  | some j =>
    rw [q] at e
    exact h.get e
theorem dpAll_append {vs ws : List V} {ds es : List PyData} (h : DqAll K H vs ds) (h' : DqAll K H ws es) : DqAll K H (vs ++ ws) (ds ++ es) := by
  induction vs generalizing ds with
  | nil => cases h; exact h'
  | cons v vs ih => cases h with | cons h1 h2 => exact .cons h1 (ih h2)
theorem DL.append {vs ws : List V} {xs ys : List α} (h : DL K H vs xs) (h' : DL K H ws ys) : DL K H (vs ++ ws) (xs ++ ys) := by
  unfold DL; rw [List.map_append]; exact dpAll_append h h'
theorem DL.push {vs : List V} {xs : List α} {v : V} {x : α} (h : DL K H vs xs) (h' : D K H v x) : DL K H (vs ++ [v]) (xs ++ [x]) :=
  h.append (.cons h' .nil)
theorem dpAll_set {vs : List V} {ds : List PyData} {v : V} {d : PyData} (h : DqAll K H vs ds) (h' : Dq K H v d) (j : Nat) : DqAll K H (vs.set j v) (ds.set j d) := by
  induction vs generalizing ds j with
  | nil => cases h; exact .nil
  | cons u vs ih =>
    cases h with
    | cons h1 h2 =>
      cases j with
      | zero => exact .cons h' h2
      | succ j => exact .cons h1 (ih h2 j)
theorem DL.set {vs : List V} {xs : List α} {v : V} {x : α} (h : DL K H vs xs) (h' : D K H v x) (j : Nat) : DL K H (vs.set j v) (xs.set j x) := by
  unfold DL; rw [List.map_set]; exact dpAll_set h h' j
theorem dpAll_take {vs : List V} {ds : List PyData} (h : DqAll K H vs ds) (n : Nat) : DqAll K H (vs.take n) (ds.take n) := by
  induction n generalizing vs ds with
  | zero => exact .nil
  | succ n ih => cases h with | nil => exact .nil | cons h1 h2 => exact .cons h1 (ih h2)
theorem dpAll_drop {vs : List V} {ds : List PyData} (h : DqAll K H vs ds) (n : Nat) : DqAll K H (vs.drop n) (ds.drop n) := by
  induction n generalizing vs ds with
  | zero => exact h
  | succ n ih => cases h with | nil => exact .nil | cons h1 h2 => exact ih h2
def cut {α : Type} (xs : List α) (lo hi : Option Int) : List α := (xs.drop (HT.sIx xs.length 0 lo)).take (HT.sIx xs.length xs.length hi - HT.sIx xs.length 0 lo)
theorem DL.cut {vs : List V} {xs : List α} (h : DL K H vs xs) (lo hi : Option Int) : DL K H (cutV vs lo hi) (Z.cut xs lo hi) := by
  unfold DL cutV Z.cut
  rw [List.map_take, List.map_drop, h.len]
  exact dpAll_take (dpAll_drop h _) _
theorem dl_ints {vs : List V} : ∀ {xs : List Int}, DL K H vs xs → vs = xs.map V.int := by
  induction vs with
  | nil => intro xs h; cases xs with | nil => rfl | cons x xs => cases h
  | cons v vs ih =>
    intro xs h
    cases xs with
    | nil => cases h
    | cons x xs => cases h with | cons h1 h2 => rw [ih h2, d_int h1]; rfl
theorem dl_bools {vs : List V} : ∀ {xs : List Bool}, DL K H vs xs → vs = xs.map V.bl := by
  induction vs with
  | nil => intro xs h; cases xs with | nil => rfl | cons x xs => cases h
  | cons v vs ih =>
    intro xs h
    cases xs with
    | nil => cases h
    | cons x xs => cases h with | cons h1 h2 => rw [ih h2, d_bool h1]; rfl
theorem ints_dl : ∀ {xs : List Int}, DL K H (xs.map V.int) xs
  | [] => .nil
  | x :: xs => .cons (.int x) ints_dl
end

/-! ### the state: what stands for good (Ho), what may be written (rs) -/
/-- no tuple: tuples never change, so that none is written -/
def NotTup : HO → Prop
  | .tup _ => False
  | _ => True
structure Zs (rs : List (Addr × HO)) (H Ho : Hp) : Prop where
  le : Same Ho H
  rt : ∀ r ∈ rs, H r.1 = some r.2 ∧ Ho r.1 = none
  nd : (rs.map (·.1)).Nodup
  nt : ∀ r ∈ rs, NotTup r.2

section
variable {K : PySem.W.Frag} {H Ho H' Ho' : Hp} {rs : List (Addr × HO)} {p q : Addr} {o o' : HO}
theorem Zs.free (z : Zs rs H Ho) (h : H q = none) : Ho q = none := z.le.free h
theorem Zs.nin (z : Zs rs H Ho) (h : H q = none) : ∀ r ∈ rs, r.1 ≠ q := fun r hr e => by
  have := (z.rt r hr).1
  rw [e, h] at this
  cases this
/-- a new object that stays -/
theorem Zs.alloc (z : Zs rs H Ho) (h : H q = none) : Zs rs (upd H q o) (upd Ho q o) :=
  ⟨fun b x e => by
    by_cases hb : b = q
    · subst hb; rw [upd_same] at e ⊢; exact e
    · rw [upd_ne hb] at e ⊢; exact z.le b x e,
   fun r hr => by
    have ne := z.nin h r hr
    rw [upd_ne ne, upd_ne ne]; exact z.rt r hr, z.nd, z.nt⟩
theorem Same.new (h : Ho q = none) : Same Ho (upd Ho q o) := fun b x e => by
  rw [upd_ne (ne_of_none e h)]; exact e
/-- a new object that may be written -/
theorem Zs.root (z : Zs rs H Ho) (h : H q = none) (hn : NotTup o := by exact trivial) : Zs ((q, o) :: rs) (upd H q o) Ho :=
  ⟨fun b x e => by
    rw [upd_ne (ne_of_none (z.le b x e) h)]; exact z.le b x e,
   fun r hr => by
    rcases List.mem_cons.mp hr with e | hr
    · subst e; exact ⟨upd_same, z.free h⟩
    · rw [upd_ne (z.nin h r hr)]; exact z.rt r hr,
   List.nodup_cons.mpr ⟨fun hm => by
    obtain ⟨r, hr, e⟩ := List.mem_map.mp hm
    exact z.nin h r hr e, z.nd⟩, fun r hr => by
    rcases List.mem_cons.mp hr with e | hr
    · subst e; exact hn
    · exact z.nt r hr⟩
theorem Zs.put (z : Zs ((p, o) :: rs) H Ho) (hn : NotTup o' := by exact trivial) : Zs ((p, o') :: rs) (upd H p o') Ho :=
  ⟨fun b x e => by
    have np : b ≠ p := fun e' => by subst e'; rw [(z.rt _ List.mem_cons_self).2] at e; cases e
    rw [upd_ne np]; exact z.le b x e,
   fun r hr => by
    rcases List.mem_cons.mp hr with e | hr
    · subst e; exact ⟨upd_same, (z.rt _ List.mem_cons_self).2⟩
    · have np : r.1 ≠ p := fun e' => by
        have := (List.nodup_cons.mp z.nd).1
        exact this (List.mem_map.mpr ⟨r, hr, e'⟩)
      rw [upd_ne np]; exact z.rt r (List.mem_cons_of_mem _ hr), z.nd, fun r hr => by
    rcases List.mem_cons.mp hr with e | hr
    · subst e; exact hn
    · exact z.nt r (List.mem_cons_of_mem _ hr)⟩
theorem Zs.tail (z : Zs ((p, o) :: rs) H Ho) : Zs rs H Ho :=
  ⟨z.le, fun r hr => z.rt r (List.mem_cons_of_mem _ hr), (List.nodup_cons.mp z.nd).2, fun r hr => z.nt r (List.mem_cons_of_mem _ hr)⟩
theorem Zs.head (z : Zs ((p, o) :: rs) H Ho) : H p = some o := (z.rt _ List.mem_cons_self).1
theorem Zs.headN (z : Zs ((p, o) :: rs) H Ho) : Ho p = none := (z.rt _ List.mem_cons_self).2
/-- what may be written stands for good from now on -/
theorem Zs.freeze (z : Zs ((p, o) :: rs) H Ho) : Zs rs H (upd Ho p o) :=
  ⟨fun b x e => by
    by_cases hb : b = p
    · subst hb; rw [upd_same] at e; rw [← e]; exact z.head
    · rw [upd_ne hb] at e; exact z.le b x e,
   fun r hr => by
    have np : r.1 ≠ p := fun e' => (List.nodup_cons.mp z.nd).1 (List.mem_map.mpr ⟨r, hr, e'⟩)
    rw [upd_ne np]; exact z.rt r (List.mem_cons_of_mem _ hr), (List.nodup_cons.mp z.nd).2, fun r hr => z.nt r (List.mem_cons_of_mem _ hr)⟩
theorem Zs.perm {rs' : List (Addr × HO)} (z : Zs rs H Ho) (h : rs.Perm rs') : Zs rs' H Ho :=
  ⟨z.le, fun r hr => z.rt r (h.mem_iff.mpr hr), (h.map _).nodup_iff.mp z.nd, fun r hr => z.nt r (h.mem_iff.mpr hr)⟩
theorem perm1 {α : Type} {a b : α} {l : List α} : (a :: b :: l).Perm (b :: a :: l) := List.Perm.swap b a l
theorem perm2 {α : Type} {a b c : α} {l : List α} : (a :: b :: c :: l).Perm (c :: a :: b :: l) :=
  (List.Perm.cons a (List.Perm.swap c b l)).trans (List.Perm.swap c a (b :: l))
theorem perm2' {α : Type} {a b c : α} {l : List α} : (c :: a :: b :: l).Perm (a :: b :: c :: l) := perm2.symm
theorem perm3 {α : Type} {a b c d : α} {l : List α} : (a :: b :: c :: d :: l).Perm (d :: a :: b :: c :: l) :=
  (List.Perm.cons a perm2).trans (List.Perm.swap d a (b :: c :: l))
theorem perm3' {α : Type} {a b c d : α} {l : List α} : (d :: a :: b :: c :: l).Perm (a :: b :: c :: d :: l) := perm3.symm
theorem Zs.sw1 {a b : Addr × HO} (z : Zs (a :: b :: rs) H Ho) : Zs (b :: a :: rs) H Ho := z.perm perm1
theorem Zs.sw2 {a b c : Addr × HO} (z : Zs (a :: b :: c :: rs) H Ho) : Zs (c :: a :: b :: rs) H Ho := z.perm perm2
theorem Zs.sw2' {a b c : Addr × HO} (z : Zs (c :: a :: b :: rs) H Ho) : Zs (a :: b :: c :: rs) H Ho := z.perm perm2'
theorem Zs.sw3 {a b c d : Addr × HO} (z : Zs (a :: b :: c :: d :: rs) H Ho) : Zs (d :: a :: b :: c :: rs) H Ho := z.perm perm3
theorem Zs.sw3' {a b c d : Addr × HO} (z : Zs (d :: a :: b :: c :: rs) H Ho) : Zs (a :: b :: c :: d :: rs) H Ho := z.perm perm3'
end

/-- a list that is read -/
def LV {α : Type} [Py α] (K : PySem.W.Frag) (rs : List (Addr × HO)) (Ho : Hp) (v : V) (xs : List α) : Prop :=
  ∃ p vs, v = .ref p ∧ DL K Ho vs xs ∧ (SqL K Ho p vs ∨ (p, HO.lst vs) ∈ rs)
section
variable {K : PySem.W.Frag} {H Ho H' Ho' : Hp} {rs rs' : List (Addr × HO)} {α : Type} [Py α] {v : V} {xs : List α}
theorem LV.mo (h : LV K rs Ho v xs) (e : Same Ho Ho') : LV K rs Ho' v xs := by
  obtain ⟨p, vs, rfl, d, s⟩ := h
  exact ⟨p, vs, rfl, DL.mo d e, s.imp (fun s => e.seq s) id⟩
theorem LV.sub (h : LV K rs Ho v xs) (e : ∀ r ∈ rs, r ∈ rs') : LV K rs' Ho v xs := by
  obtain ⟨p, vs, rfl, d, s⟩ := h
  exact ⟨p, vs, rfl, d, s.imp id (e _)⟩
theorem LV.cons {r : Addr × HO} (h : LV K rs Ho v xs) : LV K (r :: rs) Ho v xs := h.sub fun _ m => List.mem_cons_of_mem _ m
theorem LV.of (h : D K Ho v xs) : LV K rs Ho v xs := by
  cases h with
  | lst hs ha => exact ⟨_, _, rfl, ha, .inl hs⟩
theorem LV.rd (h : LV K rs Ho v xs) (z : Zs rs H Ho) : ∃ p vs, v = .ref p ∧ DL K Ho vs xs ∧ SqL K H p vs := by
  obtain ⟨p, vs, rfl, d, s⟩ := h
  refine ⟨p, vs, rfl, d, ?_⟩
  rcases s with s | s
  · exact z.le.seq s
  · exact SqL.of (z.rt _ s).1
theorem LV.dp (h : LV K rs Ho v xs) (z : Zs rs H Ho) : D K H v xs := by
  obtain ⟨p, vs, rfl, d, s⟩ := h.rd z
  exact .lst s (DL.mo d z.le)
theorem lv_root {p : Addr} {vs : List V} (d : DL K Ho vs xs) (m : (p, HO.lst vs) ∈ rs) : LV K rs Ho (.ref p) xs := ⟨p, vs, rfl, d, .inr m⟩
end


/-! ### more rules of the machine -/
section
variable {X : Cx}
def rCatS (K : PySem.W.Frag) : R2 := fun x y H Q => ∃ l b xs zs, x = .ref l ∧ y = .ref b ∧ SqL K H l xs ∧ SqL K H b zs ∧ xs.length + zs.length ≤ sizeLine ∧ ∀ p, H p = none → Q (.ref p) (upd H p (.lst (xs ++ zs)))
theorem op_catS : OpR X (binaryOp .Add) (rCatS X.K) := by
  intro pins s σ H x y v u Q I rx ry h
  obtain ⟨l, b, xs, zs, rfl, rfl, hH, hB, hz, q⟩ := h
  cases rx
  cases ry
  obtain ⟨its, r, pl, _⟩ := I.list hH
  obtain ⟨its2, r2, pl2, _⟩ := I.list hB
  have hl := r.length
  have hl2 := r2.length
  obtain ⟨⟨cls, dd, data, sl⟩, ho, hc, n, hd⟩ := pl.isList
  obtain ⟨⟨cls2, dd2, data2, sl2⟩, ho2, hc2, n2, hd2⟩ := pl2.isList
  simp only at hc hd hc2 hd2
  subst hc hd hc2 hd2
  have ea : its.toArray ++ its2.toArray = (its ++ its2).toArray := by simp
  refine concat_meets ⟨_, ho, rfl⟩ ⟨_, ho2, rfl⟩ noFill_list_add seq_list_add PySem.F.slot_list_add PySem.F.entry_list_add (PySem.F.args_list_add_2 _ _) (list_addW l b its.toArray its2.toArray n n2 dd dd2 sl sl2 (by simp only [List.size_toArray]; omega)) ⟨ho, ho2, ?_⟩
  rw [ea]
  exact ⟨.ref _, _, I.lnew (t' := s.toks) (r.append r2) (by rw [List.length_append]; omega), rfl, q _ I.fresh⟩
/-- xs[i] as the old value of xs[i] op= e -/
theorem get_list : PGet X (rIxL X.K) := by
  intro pins s σ H o i ov iv Q I ro ri h
  obtain ⟨p, xs, i, z, rfl, rfl, hq, he, q⟩ := h
  cases ro
  obtain ⟨t, rfl⟩ := ri
  obtain ⟨its, r, pl, hz⟩ := I.list hq
  obtain ⟨j, h1, h2, h3, h4, h5⟩ := atI_get he
  obtain ⟨w, ew, rw'⟩ := r.get h2
  have hl := r.length
  have hn := line63
  have fin : EP X pins σ Q w s := ⟨z, H, I, rw', q⟩
  by_cases h0 : 0 ≤ i
  · have hj : i.toNat = j := by
      rw [seqIndex_of h0 h5] at h1
      exact Option.some.inj h1
    exact wpAny_getItem_list pl.isList h0 (by omega) (by rw [hj]; simpa using ew) fin
  · have hj : (i + (its.toArray.size : Int)).toNat = j := by
      rw [seqIndex_neg (by omega) h4] at h1
      rw [List.size_toArray, ← hl]
      exact Option.some.inj h1
    exact wpAny_getItem_list_neg pl.isList (by omega) (by rw [List.size_toArray] <;> omega) (by omega) (by rw [hj]; simpa using ew) fin
end
end Z

/-! # Y1: readings step by step -/
namespace Z
open PySem PySem.Spec PyProof.Rows L2

/-! ### roots -/
theorem Zs.putI {rs : List (Addr × HO)} {H Ho : Hp} {n : Nat} {p : Addr} {o o' : HO} (z : Zs rs H Ho) (h : rs[n]? = some (p, o)) (hn : NotTup o' := by exact trivial) : Zs (rs.set n (p, o')) (upd H p o') Ho := by
  have hp := z.rt (p, o) (List.mem_of_getElem? h)
  have idx : ∀ m r, rs[m]? = some r → r.1 = p → m = n := fun m r hm e => by
    have h1 : (rs.map (·.1))[m]? = some p := by rw [List.getElem?_map, hm]; exact congrArg some e
    have h2 : (rs.map (·.1))[n]? = some p := by rw [List.getElem?_map, h]; rfl
    exact nd_ix z.nd h1 h2
  refine ⟨fun b x e => ?_, fun r hr => ?_, ?_, fun r hr => ?_⟩
  · have np : b ≠ p := fun e' => by subst e'; rw [hp.2] at e; cases e
    rw [upd_ne np]; exact z.le b x e
  · obtain ⟨m, hm⟩ := List.mem_iff_getElem?.mp hr
    rw [List.getElem?_set] at hm
    by_cases c : n = m
    · rw [if_pos c] at hm
      split at hm
      · cases hm; exact ⟨upd_same, hp.2⟩
      · cases hm
    · rw [if_neg c] at hm
      have np : r.1 ≠ p := fun e => c (idx m r hm e).symm
      rw [upd_ne np]; exact z.rt r (List.mem_of_getElem? hm)
  · have e : (rs.set n (p, o')).map (·.1) = rs.map (·.1) := by
      rw [List.map_set]
      apply List.ext_getElem?
      intro m
      rw [List.getElem?_set]
      split
      · rename_i c
        subst c
        rw [List.getElem?_map, h]
        have hl : n < (rs.map (·.1)).length := by rw [List.length_map]; exact (List.getElem?_eq_some_iff.mp h).1
        rw [if_pos hl]; rfl
      · rfl
    rw [e]; exact z.nd
  · rcases List.mem_or_eq_of_mem_set hr with q | q
    · exact z.nt r q
    · subst q; exact hn
theorem Zs.sub {rs rs' : List (Addr × HO)} {H Ho : Hp} (z : Zs rs H Ho) (h : rs'.Sublist rs) : Zs rs' H Ho :=
  ⟨z.le, fun r hr => z.rt r (h.subset hr), (h.map _).nodup z.nd, fun r hr => z.nt r (h.subset hr)⟩
/-- some of the roots, in any order -/
theorem Zs.re {rs rs' : List (Addr × HO)} {H Ho : Hp} (l amb : List (Addr × HO)) (is : List Nat) (z : Zs rs H Ho) (h1 : rs = l ++ amb := by rfl) (h2 : rs' = (is.filterMap fun i => l[i]?) ++ amb := by rfl) (hn : is.Nodup := by decide) : Zs rs' H Ho := by
  subst h1 h2
  have sub : ∀ r ∈ (is.filterMap fun i => l[i]?), r ∈ l := fun r hr => by
    obtain ⟨i, _, e⟩ := List.mem_filterMap.mp hr
    exact List.mem_of_getElem? e
  have sub2 : ∀ r ∈ (is.filterMap fun i => l[i]?) ++ amb, r ∈ l ++ amb := fun r hr => by
    rcases List.mem_append.mp hr with h | h
    · exact List.mem_append.mpr (.inl (sub r h))
    · exact List.mem_append.mpr (.inr h)
  refine ⟨z.le, fun r hr => z.rt r (sub2 r hr), ?_, fun r hr => z.nt r (sub2 r hr)⟩
  · have nd := z.nd
    rw [List.map_append, List.nodup_append] at nd ⊢
    refine ⟨?_, nd.2.1, fun a ha b hb => ?_⟩
    · rw [List.map_filterMap]
      refine List.Pairwise.filterMap _ (fun i j hij a ha b hb e => ?_) hn
      subst e
      simp only [Option.map_eq_some_iff] at ha hb
      obtain ⟨r, e1, e2⟩ := ha
      obtain ⟨q, e3, e4⟩ := hb
      refine hij (nd_ix nd.1 (show (l.map (·.1))[i]? = some a from ?_) (show (l.map (·.1))[j]? = some a from ?_))
      · rw [List.getElem?_map, e1]; exact congrArg some e2
      · rw [List.getElem?_map, e3]; exact congrArg some e4
    · obtain ⟨r, hr, rfl⟩ := List.mem_map.mp ha
      exact nd.2.2 _ (List.mem_map.mpr ⟨r, sub r hr, rfl⟩) b hb
theorem rt_mem {rs : List (Addr × HO)} {n : Nat} {a : Addr × HO} (h : rs[n]? = some a) : a ∈ rs := List.mem_of_getElem? h
def subN {rs : List (Addr × HO)} (n : Nat) {xs : List (Addr × HO)} (h : xs.drop n = rs) : ∀ r ∈ rs, r ∈ xs := fun r m => List.mem_of_mem_drop (i := n) (h ▸ m)

section
variable {K : PySem.W.Frag} {rs r0 : List (Addr × HO)} {σ : L2.St} {H Ho : Hp} {ta tb tc te : TE} {tt tu : TT} {ts : TA} {Q : VK} {QB : Bool → Hp → Prop} {u t1 t2 : TS} {D : Ends} {v w : V} {i : Nat} {α β γ : Type} [Py α] [Py β] {Φ : γ → Prop} {p : Addr}
theorem frz {ws : List V} {xs : List α} (z : Zs ((p, .lst ws) :: rs) H Ho) (d : DL K Ho ws xs) : ∃ Ho', Same Ho Ho' ∧ Zs rs H Ho' ∧ Z.D K Ho' (.ref p) xs := by
  have e : Same Ho (upd Ho p (.lst ws)) := Same.new z.headN
  exact ⟨_, e, z.freeze, .lst (SqL.of upd_same) (DL.mo d e)⟩
/-- a new list that stands for good at once -/
theorem frzK {Q' : Addr → Hp → Prop} {H' : Hp} {xs : List α} (k : ∀ p Ho', Same Ho Ho' → Zs rs H' Ho' → Z.D K Ho' (.ref p) xs → Q' p H') : ∀ p ws, Zs ((p, .lst ws) :: rs) H' Ho → DL K Ho ws xs → Q' p H' := fun p ws z d => by
  obtain ⟨Ho', e, z', d'⟩ := frz z d
  exact k p Ho' e z' d'
/-! ### expressions -/
theorem y_var (h : σ[i]? = some (some v)) (k : Q v H) : tVar i σ H Q := ⟨v, h, k⟩
theorem y_c (k : Q v H) : tC v σ H Q := k
theorem y_op {r : R2} (k : ta σ H fun x H1 => tb σ H1 fun y H2 => r x y H2 Q) : tOp r ta tb σ H Q := k
theorem y_un {r : V → Hp → VK → Prop} (k : ta σ H fun x H1 => r x H1 Q) : tUn r ta σ H Q := k
theorem y_test (k : te σ H fun x H1 => ∃ c, x = .bl c ∧ QB c H1) : tTest te σ H QB := k
theorem y_tB (k : te σ H fun x H1 => ∃ c, x = .bl c ∧ QB c H1) : tB te σ H QB := k
theorem y_bl {b : Bool} (k : QB b H) : ∃ c, V.bl b = .bl c ∧ QB c H := ⟨b, rfl, k⟩
theorem y_not (k : tt σ H fun c H1 => QB (!c) H1) : tNot tt σ H QB := k
theorem y_notV (k : te σ H fun x H1 => ∃ c, x = .bl c ∧ Q (.bl (!c)) H1) : tNotV te σ H Q := k
theorem y_andV (k : ta σ H fun x H1 => ∃ c, x = .bl c ∧ if c = true then tb σ H1 Q else Q (.bl false) H1) : tAndV ta tb σ H Q := k
theorem y_orV (k : ta σ H fun x H1 => ∃ c, x = .bl c ∧ if c = true then Q (.bl true) H1 else tb σ H1 Q) : tOrV ta tb σ H Q := k
theorem y_and (k : tt σ H fun c H1 => if c = true then tu σ H1 QB else QB false H1) : tAnd tt tu σ H QB := k
theorem y_or (k : tt σ H fun c H1 => if c = true then QB true H1 else tu σ H1 QB) : tOr tt tu σ H QB := k
theorem y_if (k : tt σ H fun c H1 => if c = true then ta σ H1 Q else tb σ H1 Q) : tIf tt ta tb σ H Q := k
theorem y_chain {r r' : R2} (k : ta σ H fun x H1 => tb σ H1 fun y H2 => r x y H2 fun z H3 => ∃ c, z = .bl c ∧ (if c = true then tc σ H3 fun w' H4 => r' y w' H4 Q else Q (.bl false) H3)) : tChain r r' ta tb tc σ H Q := k
theorem y_cb {r : List V → Hp → VK → Prop} (k : ts σ H fun vs H1 => r vs H1 Q) : tCB r ts σ H Q := k
theorem y_nil {QL : List V → Hp → Prop} (k : QL [] H) : tNil σ H QL := k
theorem y_cons {QL : List V → Hp → Prop} (k : ta σ H fun x H1 => ts σ H1 fun xs H2 => QL (x :: xs) H2) : tCons ta ts σ H QL := k
theorem y_lst (k : ts σ H fun xs H1 => xs.length ≤ sizeLine ∧ ∀ p, H1 p = none → Q (.ref p) (upd H1 p (.lst xs))) : tLst ts σ H Q := k
theorem y_tup (k : ts σ H fun xs H1 => xs.length ≤ sizeLine ∧ ∀ p, H1 p = none → Q (.ref p) (upd H1 p (.tup xs))) : tTup ts σ H Q := k
theorem y_sl {r : V → Option Int → Option Int → Hp → VK → Prop} {tl th : TO} (k : te σ H fun x H1 => tl σ H1 fun l H2 => th σ H2 fun u H3 => r x l u H3 Q) : tSl r te tl th σ H Q := k
theorem y_noPart {QO : Option Int → Hp → Prop} (k : QO none H) : tNoPart σ H QO := k
theorem y_part {QO : Option Int → Hp → Prop} (k : te σ H fun x H1 => ∃ i, x = .int i ∧ QO (some i) H1) : tPart te σ H QO := k
theorem y_int {QO : Int → Hp → Prop} {i : Int} (k : QO i H) : ∃ j, V.int i = .int j ∧ QO j H := ⟨i, rfl, k⟩
theorem y_call {sp : Sp} {E : XK} (k : ts σ H fun vs H1 => sp (vs ++ []) H1 Q E) : tCall sp [] E ts σ H Q := k
theorem y_bm {T : String} {r : V → List V → Hp → VK → Prop} (k : te σ H fun x H1 => tyV K T x H1 ∧ ts σ H1 fun xs H2 => r x xs H2 Q) : tBM K T r te ts σ H Q := k
theorem y_bm0 {T : String} {r : V → List V → Hp → VK → Prop} (k : te σ H fun x H1 => tyV K T x H1 ∧ r x [] H1 Q) : tBM0 K T r te σ H Q := k
/-! ### values -/
theorem y_i0 {g : Int → Int → V} {a b : Int} (k : Q (g a b) H) : rI0 g (.int a) (.int b) H Q := ⟨a, b, rfl, rfl, k⟩
theorem y_ig {C : Int → Int → Prop} {g : Int → Int → V} {a b : Int} (c : C a b) (k : Q (g a b) H) : rI C g (.int a) (.int b) H Q := ⟨a, b, rfl, rfl, c, k⟩
theorem y_neg {a : Int} (k : Q (.int (-a)) H) : rU (fun i => .int (-i)) (.int a) H Q := ⟨a, rfl, k⟩
theorem y_eqi {a b : Int} (k : Q (.bl (decide (a = b))) H) : rEq (.int a) (.int b) H Q := ⟨rfl, by
  have e : decide (V.int a = V.int b) = decide (a = b) := by simp
  rw [e]; exact k⟩
theorem y_nei {a b : Int} (k : Q (.bl (!decide (a = b))) H) : rNe (.int a) (.int b) H Q := ⟨rfl, by
  have e : decide (V.int a = V.int b) = decide (a = b) := by simp
  rw [e]; exact k⟩
theorem y_eqb {a b : Bool} (k : Q (.bl (decide (a = b))) H) : rEq (.bl a) (.bl b) H Q := ⟨rfl, by
  have e : decide (V.bl a = V.bl b) = decide (a = b) := by simp
  rw [e]; exact k⟩
theorem y_neb {a b : Bool} (k : Q (.bl (!decide (a = b))) H) : rNe (.bl a) (.bl b) H Q := ⟨rfl, by
  have e : decide (V.bl a = V.bl b) = decide (a = b) := by simp
  rw [e]; exact k⟩
theorem y_eqs {a b : Str} (k : Q (.bl (decide (a = b))) H) : rEq (.str a) (.str b) H Q := ⟨rfl, by
  have e : decide (V.str a = V.str b) = decide (a = b) := by simp
  rw [e]; exact k⟩
theorem y_nes {a b : Str} (k : Q (.bl (!decide (a = b))) H) : rNe (.str a) (.str b) H Q := ⟨rfl, by
  have e : decide (V.str a = V.str b) = decide (a = b) := by simp
  rw [e]; exact k⟩
def eqD {β γ : Type} [Py β] [Py γ] (x : β) (y : γ) : Bool := PyData.eqv (toPy x) (toPy y)
def okD {β : Type} [Py β] (x : β) : Prop := SeqAt.shaped (toPy x) = true
theorem y_eqD {x : α} {y : β} (d1 : Z.D K H v x) (d2 : Z.D K H w y) (hg : okD x ∧ okD y) (k : Q (.bl (eqD x y)) H) : rEqD K v w H Q := ⟨_, _, Dq.dp _ _ (shp hg.1) d1, Dq.dp _ _ (shp hg.2) d2, hg.1, hg.2, k⟩
theorem y_neD {x : α} {y : β} (d1 : Z.D K H v x) (d2 : Z.D K H w y) (hg : okD x ∧ okD y) (k : Q (.bl (!eqD x y)) H) : rNeD K v w H Q := ⟨_, _, Dq.dp _ _ (shp hg.1) d1, Dq.dp _ _ (shp hg.2) d2, hg.1, hg.2, k⟩
def inD (x : α) (ys : List β) : Bool := ys.any fun y => eqD y x
theorem any_map {x : α} : ∀ {ys : List β}, ((ys.map Py.toPy).any fun z => PyData.eqv z (toPy x)) = inD x ys
  | [] => rfl
  | y :: ys => by
    show (_ || _) = (_ || _)
    rw [any_map]; rfl
theorem y_inD {x : α} {ys : List β} (d1 : Z.D K H v x) (d2 : Z.D K H w ys) (hg : okD x ∧ okD ys) (k : Q (.bl (inD x ys)) H) : rInD K v w H Q := ⟨_, _, Dq.dp _ _ (shp hg.1) d1, Dq.dp _ _ (shp hg.2) d2, hg.1, hg.2, by
  have e := any_map (x := x) (ys := ys)
  exact e ▸ k⟩
theorem y_notInD {x : α} {ys : List β} (d1 : Z.D K H v x) (d2 : Z.D K H w ys) (hg : okD x ∧ okD ys) (k : Q (.bl (!inD x ys)) H) : rNotInD K v w H Q := ⟨_, _, Dq.dp _ _ (shp hg.1) d1, Dq.dp _ _ (shp hg.2) d2, hg.1, hg.2, by
  have e := any_map (x := x) (ys := ys)
  exact e ▸ k⟩
theorem dec_non {x : Option β} (d : Z.D K H v x) (hg : ∀ b : β, x = some b → toPy b ≠ .none) : decide (v = .non) = x.isNone := by
  cases x with
  | none => cases d; rfl
  | some b =>
    rw [decide_eq_false]
    · rfl
    · intro ev
      subst ev
      have d3 : Dq K H V.non (toPy b) := d
      have nb := hg b rfl
      generalize toPy b = pb at d3 nb
      cases d3
      exact nb rfl
theorem y_isN {x : Option β} (d : Z.D K H v x) (hg : ∀ b : β, x = some b → toPy b ≠ .none) (k : Q (.bl x.isNone) H) : (fun x y H Q => y = .non ∧ Q (.bl (decide (x = .non))) H : R2) v .non H Q := ⟨rfl, by rw [dec_non d hg]; exact k⟩
theorem y_notN {x : Option β} (d : Z.D K H v x) (hg : ∀ b : β, x = some b → toPy b ≠ .none) (k : Q (.bl x.isSome) H) : (fun x y H Q => y = .non ∧ Q (.bl (!decide (x = .non))) H : R2) v .non H Q := ⟨rfl, by
  rw [dec_non d hg, show (!x.isNone) = x.isSome by cases x <;> rfl]; exact k⟩
/-! lists read -/
theorem y_ixL {xs : List α} {i : Int} {f : α → W γ} (d : LV K rs Ho v xs) (z : Zs rs H Ho) (hw : (W.bind (W.opt (atI xs i)) f).run Φ) (k : ∀ t w, Z.D K Ho w t → (f t).run Φ → Q w H) : rIxL K v (.int i) H Q := by
  obtain ⟨p, vs, rfl, d, s⟩ := d.rd z
  obtain ⟨a, ea, hw⟩ := hw
  obtain ⟨w, ew, dw⟩ := DL.at d ea
  exact ⟨p, vs, i, w, rfl, rfl, s, ew, k a w dw hw⟩
theorem y_ixT {x : α} {y : β} {i : Int} (d : Z.D K Ho v x) (z : Zs rs H Ho) (hj : ∃ ds, toPy x = .tuple ds ∧ atI ds i = some (toPy y)) (k : ∀ w, Z.D K Ho w y → Q w H) : rIxT K v (.int i) H Q := by
  obtain ⟨ds, e1, e3⟩ := hj
  have d : Dq K Ho v (toPy x) := d
  rw [e1] at d
  cases d with
  | tup hs ha =>
    have hl := dpAll_len ha
    unfold atI at e3
    rw [← hl] at e3
    cases q : ixN _ i with
    | none => rw [q] at e3; cases e3
    | some j =>
      rw [q] at e3
      obtain ⟨w, ew, dw⟩ := dpAll_get ha e3
      refine ⟨_, _, _, w, rfl, rfl, SqT.of (z.le _ _ hs), ?_, k w dw⟩
      unfold atI
      rw [q]
      exact ew
theorem y_ixTp {xs : Tp α} {i : Int} {f : α → W γ} (d : Z.D K Ho v xs) (z : Zs rs H Ho) (hw : (W.bind (W.opt (atI xs.l i)) f).run Φ) (k : ∀ t w, Z.D K Ho w t → (f t).run Φ → Q w H) : rIxT K v (.int i) H Q := by
  obtain ⟨a, ea, hw⟩ := hw
  cases d with
  | tup hs ha =>
    obtain ⟨w, ew, dw⟩ := DL.at (K := K) (H := Ho) ha ea
    exact ⟨_, _, i, w, rfl, rfl, SqT.of (z.le _ _ hs), ew, k a w dw hw⟩
theorem y_slL {xs : List α} {l h : Option Int} (d : LV K rs Ho v xs) (z : Zs rs H Ho) (k : ∀ H' p ws, Zs ((p, .lst ws) :: rs) H' Ho → DL K Ho ws (Z.cut xs l h) → Q (.ref p) H') : rSlL K v l h H Q := by
  obtain ⟨p, vs, rfl, d, s⟩ := d.rd z
  exact ⟨p, vs, rfl, s, fun q hq => k _ q _ (z.root hq) (DL.cut d l h)⟩
theorem y_cat {xs ys : List α} (d1 : LV K rs Ho v xs) (d2 : LV K rs Ho w ys) (z : Zs rs H Ho) (hg : xs.length + ys.length ≤ sizeLine) (k : ∀ H' p ws, Zs ((p, .lst ws) :: rs) H' Ho → DL K Ho ws (xs ++ ys) → Q (.ref p) H') : rCatS K v w H Q := by
  obtain ⟨p, vs, rfl, d, s⟩ := LV.rd d1 z
  obtain ⟨p', vs', rfl, d', s'⟩ := LV.rd d2 z
  exact ⟨p, p', vs, vs', rfl, rfl, s, s', by rw [d.len, d'.len]; exact hg, fun q hq => k _ _ _ (z.root hq) (d.append d')⟩
theorem rep_dl {vs : List V} {xs : List α} (d : DL K Ho vs xs) (n : Nat) : DL K Ho (List.replicate n vs).flatten (List.replicate n xs).flatten := by
  induction n with
  | zero => exact .nil
  | succ n ih =>
    rw [List.replicate_succ, List.flatten_cons, List.replicate_succ, List.flatten_cons]
    exact d.append ih
def repG {α : Type} (xs : List α) (k : Int) : Prop := -(2 ^ 63) ≤ k ∧ k < 2 ^ 63 ∧ xs.length * k.toNat ≤ sizeLine
def repL {α : Type} (xs : List α) (k : Int) : List α := (List.replicate k.toNat xs).flatten
/-- the new list xs, repeated -/
theorem y_rep {ws : List V} {xs : List α} {n : Int} (z : Zs ((p, .lst ws) :: rs) H Ho) (d : DL K Ho ws xs) (hg : repG xs n) (k : ∀ H' q ws', Zs ((q, .lst ws') :: rs) H' Ho → DL K Ho ws' (repL xs n) → Q (.ref q) H') : rRep (.ref p) (.int n) H Q :=
  ⟨p, n, ws, rfl, rfl, z.head, hg.1, hg.2.1, by rw [DL.len d]; exact hg.2.2, fun q hq => k _ q _ (z.root hq).sw1.tail (rep_dl d _)⟩
theorem y_lstk {vs : List V} {xs : List α} (z : Zs rs H Ho) (d : DL K Ho vs xs) (hl : vs.length ≤ sizeLine) (k : ∀ H' p ws, Zs ((p, .lst ws) :: rs) H' Ho → DL K Ho ws xs → Q (.ref p) H') : vs.length ≤ sizeLine ∧ ∀ p, H p = none → Q (.ref p) (upd H p (.lst vs)) :=
  ⟨hl, fun p hp => k _ p _ (z.root hp) d⟩
theorem y_tupk {vs : List V} {x : α} (z : Zs rs H Ho) (hl : vs.length ≤ sizeLine) (ds : List PyData) (hx : toPy x = .tuple ds) (d : DqAll K Ho vs ds) (k : ∀ p H' Ho', Same Ho Ho' → Zs rs H' Ho' → Z.D K Ho' (.ref p) x → Q (.ref p) H') :
    vs.length ≤ sizeLine ∧ ∀ p, H p = none → Q (.ref p) (upd H p (.tup vs)) :=
  ⟨hl, fun p hp => by
    have e3 : Same Ho (upd Ho p (.tup vs)) := Same.new (z.free hp)
    refine k p _ _ e3 (z.alloc hp) ?_
    show Dq K _ _ (toPy x)
    rw [hx]
    exact .tup upd_same (dpAll_mono e3 _ _ d)⟩
/-! ### statements -/
theorem y_asg (σ' : V → L2.St) (hσ : ∀ v, σ.set i (some v) = σ' v) (k : te σ H fun v H1 => u D (σ' v) H1) : tSeq (tAsg te (gName i)) u D σ H := by
  have e : (fun v H1 => u D (σ' v) H1) = fun v H1 => u D (σ.set i (some v)) H1 := by funext v H1; rw [hσ]
  rw [e] at k
  exact k
theorem y_asgG {g : TG} (k : te σ H fun v H1 => g v σ H1 fun σ' H' => u D σ' H') : tSeq (tAsg te g) u D σ H := k
theorem y_drop (k : te σ H fun _ H1 => u D σ H1) : tSeq (tDrop te) u D σ H := k
theorem y_ret (k : te σ H D.rt) : tSeq (tRet te) u D σ H := k
theorem y_retN (k : D.rt .non H) : tSeq tRetN u D σ H := k
theorem y_doc (k : u D σ H) : tSeq tNext u D σ H := k
theorem y_ifS (k : tt σ H fun b H1 => if b = true then t1 { D with nx := u D } σ H1 else t2 { D with nx := u D } σ H1) : tSeq (tIfS tt t1 t2) u D σ H := k
theorem y_cases {A B : W γ} {b : Bool} {X Y : Prop} (hw : (W.ite b A B).run Φ) (h1 : b = true → A.run Φ → X) (h2 : b = false → B.run Φ → Y) : if b = true then X else Y := by
  cases b with
  | true => exact iteT (h1 rfl (hw.1 rfl))
  | false => exact iteF (h2 rfl (hw.2 rfl))
theorem y_nx (k : D.nx σ H) : tNext D σ H := k
theorem run_ret {β : Type} {a : β} {Φ : β → Prop} (h : (W.ret a).run Φ) : Φ a := h
/-- a value gets a name -/
theorem y_let {e : β} {f : β → W γ} {G : Prop} (hw : (W.bind (W.ret e) f).run Φ) (P : β → Prop) (hp : P e) (k : ∀ x, P x → (f x).run Φ → G) : G := k e hp hw
theorem y_letI {e : Int} {f : Int → W γ} {G : V → Hp → Prop} (hw : (W.bind (W.ret e) f).run Φ) (k : ∀ x, (f x).run Φ → G (.int x) H) : G (.int e) H := k e hw
theorem y_letB {e : Bool} {f : Bool → W γ} {G : V → Hp → Prop} (hw : (W.bind (W.ret e) f).run Φ) (k : ∀ x, (f x).run Φ → G (.bl x) H) : G (.bl e) H := k e hw
theorem y_letS {e : Str} {f : Str → W γ} {G : V → Hp → Prop} (hw : (W.bind (W.ret e) f).run Φ) (k : ∀ x, (f x).run Φ → G (.str x) H) : G (.str e) H := k e hw
def apd {α : Type} (xs : List α) (x : α) : W (List α) := W.guard (xs.length < sizeLine) (W.ret (xs ++ [x]))
def exd {α : Type} (xs ys : List α) : W (List α) := W.guard (xs.length + ys.length ≤ sizeLine) (W.ret (xs ++ ys))
def sti {α : Type} (xs : List α) (i : Int) (y : α) : W (List α) := W.bind (W.opt (ixN xs.length i)) fun j => W.ret (xs.set j y)
theorem y_tyL {R : Prop} {n : Nat} {ws : List V} (z : Zs rs H Ho) (hn : rs[n]? = some (p, .lst ws)) (k : R) : tyV K "list" (.ref p) H ∧ R := ⟨.inl ⟨rfl, _, SqL.of (z.rt _ (List.mem_of_getElem? hn)).1⟩, k⟩
theorem y_app {n : Nat} {ws : List V} {xs : List α} {x : α} {f : List α → W γ} (z : Zs rs H Ho) (hn : rs[n]? = some (p, .lst ws)) (d : DL K Ho ws xs) (dx : Z.D K Ho w x) (hw : (W.bind (apd xs x) f).run Φ) (k : ∀ xs' ws' H', Zs (rs.set n (p, .lst ws')) H' Ho → DL K Ho ws' xs' → (f xs').run Φ → Q .non H') : rAppend (.ref p) [w] H Q := by
  have hp := z.rt _ (List.mem_of_getElem? hn)
  exact ⟨p, ws, w, rfl, rfl, hp.1, by rw [DL.len d]; exact hw.1, k _ _ _ (z.putI hn) (d.push dx) hw.2⟩
theorem y_ext {n m : Nat} {ws us : List V} {q : Addr} {xs ys : List α} {f : List α → W γ} (z : Zs rs H Ho) (hn : rs[n]? = some (p, .lst ws)) (hm : rs[m]? = some (q, .lst us)) (d : DL K Ho ws xs) (dx : DL K Ho us ys) (hw : (W.bind (exd xs ys) f).run Φ) (k : ∀ xs' ws' H', Zs (rs.set n (p, .lst ws')) H' Ho → DL K Ho ws' xs' → (f xs').run Φ → Q .non H') : rExtend (.ref p) [.ref q] H Q := by
  have hp := z.rt _ (List.mem_of_getElem? hn)
  have hq := z.rt _ (List.mem_of_getElem? hm)
  exact ⟨p, q, ws, us, rfl, rfl, hp.1, hq.1, by rw [DL.len d, DL.len dx]; exact hw.1, k _ _ _ (z.putI hn) (d.append dx) hw.2⟩
/-- xs.pop() -/
def popL {α : Type} (xs : List α) : W α := W.opt xs[xs.length - 1]?
theorem dpAll_dropLast {vs : List V} {ds : List PyData} (h : DqAll K H vs ds) : DqAll K H vs.dropLast ds.dropLast := by
  have hl := dpAll_len h
  rw [List.dropLast_eq_take, List.dropLast_eq_take, hl]
  exact dpAll_take h _
theorem y_pop {n : Nat} {ws : List V} {xs : List α} {f : α → W γ} (z : Zs rs H Ho) (hn : rs[n]? = some (p, .lst ws)) (d : DL K Ho ws xs) (hw : (W.bind (popL xs) f).run Φ) (k : ∀ t w ws' H', Zs (rs.set n (p, .lst ws')) H' Ho → DL K Ho ws' xs.dropLast → Z.D K Ho w t → (f t).run Φ → Q w H') : rPop (.ref p) [] H Q := by
  have hp := z.rt _ (List.mem_of_getElem? hn)
  obtain ⟨t, et, hw⟩ := hw
  rw [← DL.len d] at et
  obtain ⟨w, ew, dw⟩ := DL.get d et
  refine ⟨p, ws, w, rfl, rfl, hp.1, ew, k t w _ _ (z.putI hn) ?_ dw hw⟩
  show DqAll _ _ _ (xs.dropLast.map Py.toPy)
  rw [List.map_dropLast]
  exact dpAll_dropLast d
/-- xs.pop(i) -/
def popI {α : Type} (xs : List α) (i : Int) : W (α × List α) := W.guard (-(2 ^ 63) ≤ i ∧ i < 2 ^ 63) (W.bind (W.opt (ixN xs.length i)) fun j => W.bind (W.opt xs[j]?) fun x => W.ret (x, xs.eraseIdx j))
theorem ixN_seq {n : Nat} {i : Int} {j : Nat} (h : ixN n i = some j) : seqIndex? i n = some j := by
  unfold ixN at h
  by_cases c : 0 ≤ i
  · rw [if_pos c] at h
    split at h
    · rename_i hl
      have e : i.toNat = j := Option.some.inj h
      rw [seqIndex_of c (by omega)]
      exact h
    · cases h
  · rw [if_neg c] at h
    split at h
    · rename_i hl
      rw [seqIndex_neg (by omega) (by omega)]
      rw [← h]
    · cases h
theorem dpAll_erase {vs : List V} {ds : List PyData} (h : DqAll K H vs ds) (j : Nat) : DqAll K H (vs.eraseIdx j) (ds.eraseIdx j) := by
  induction vs generalizing ds j with
  | nil => cases h; exact .nil
  | cons u vs ih =>
    cases h with
    | cons h1 h2 =>
      cases j with
      | zero => exact h2
      | succ j => exact .cons h1 (ih h2 j)
theorem map_erase {α β : Type} (f : α → β) : ∀ (xs : List α) (j : Nat), (xs.eraseIdx j).map f = (xs.map f).eraseIdx j
  | [], _ => rfl
  | x :: xs, 0 => rfl
  | x :: xs, j + 1 => by simp [map_erase f xs j]
theorem y_popI {n : Nat} {ws : List V} {xs : List α} {i : Int} {f : α × List α → W γ} (z : Zs rs H Ho) (hn : rs[n]? = some (p, .lst ws)) (d : DL K Ho ws xs) (hw : (W.bind (popI xs i) f).run Φ) (k : ∀ t xs' w ws' H', Zs (rs.set n (p, .lst ws')) H' Ho → DL K Ho ws' xs' → Z.D K Ho w t → (f (t, xs')).run Φ → Q w H') : rPopAt (.ref p) [.int i] H Q := by
  have hp := z.rt _ (List.mem_of_getElem? hn)
  obtain ⟨⟨g1, g2⟩, j, ej, t, et, hw⟩ := hw
  obtain ⟨w, ew, dw⟩ := DL.get d et
  refine ⟨p, ws, i, j, w, rfl, rfl, hp.1, g1, g2, ixN_seq (by rw [DL.len d]; exact ej), ew, k t _ w _ _ (z.putI hn) ?_ dw hw⟩
  show DqAll _ _ _ ((xs.eraseIdx j).map Py.toPy)
  rw [map_erase]
  exact dpAll_erase d j
theorem y_gsub {to ti : TE} {t : TSet} {QS : L2.St → Hp → Prop} (k : to σ H fun o H1 => ti σ H1 fun i H2 => t o i v H2 fun H3 => QS σ H3) : gSub to ti t v σ H QS := k
theorem y_sti {n : Nat} {ws : List V} {xs : List α} {x : α} {i : Int} {QH : Hp → Prop} {f : List α → W γ} (z : Zs rs H Ho) (hn : rs[n]? = some (p, .lst ws)) (d : DL K Ho ws xs) (dx : Z.D K Ho w x) (hw : (W.bind (sti xs i x) f).run Φ) (k : ∀ xs' ws' H', Zs (rs.set n (p, .lst ws')) H' Ho → DL K Ho ws' xs' → (f xs').run Φ → QH H') : rSetL (.ref p) (.int i) w H QH := by
  have hp := z.rt _ (List.mem_of_getElem? hn)
  obtain ⟨j, ej, hw⟩ := hw
  exact ⟨p, ws, i, j, rfl, rfl, hp.1, by rw [DL.len d]; exact ej, k _ _ _ (z.putI hn) (DL.set d dx j) hw⟩
theorem y_augS {to ti : TE} {tget : V → V → Hp → VK → Prop} {tip : TIp} {tset : TSet} (k : to σ H fun o H1 => ti σ H1 fun i H2 => tget o i H2 fun x H3 => te σ H3 fun y H4 => tip x y H4 fun z H5 => tset o i z H5 fun H6 => u D σ H6) : tSeq (tAugS to ti te tget tip tset) u D σ H := k
theorem y_ip {f : Int → Int → Int} {a b : Int} (k : Q (.int (f a b)) H) : ipI f (.int a) (.int b) H Q := ⟨a, b, rfl, rfl, k⟩
theorem y_aug (σ' : V → L2.St) {tip : TIp} (h : σ[i]? = some (some v)) (hσ : ∀ v, σ.set i (some v) = σ' v) (k : te σ H fun y H1 => tip v y H1 fun z H2 => u D (σ' z) H2) : tSeq (tAug i te tip) u D σ H := by
  have e : (fun z H2 => u D (σ' z) H2) = fun z H2 => u D (σ.set i (some z)) H2 := by funext v H1; rw [hσ]
  refine ⟨v, h, ?_⟩
  rw [e] at k
  exact k
end
end Z

/-! # Y2: what is walked, loops, comprehensions, joins, errors, built-ins -/
namespace Z
open PySem PySem.Spec PyProof.Rows L2

/-! ### what is walked -/
def rng (a b : Int) : List Int := (List.range (b - a).toNat).map fun k : Nat => a + k
def rngD (a b : Int) : List Int := (List.range (a - b).toNat).map fun k : Nat => a - k
def enumZ {α : Type} (xs : List α) : List (Int × α) := (rng 0 xs.length).zip xs
def enumS {α : Type} (n : Int) (xs : List α) : List (Int × α) := (rng n (n + xs.length)).zip xs
def rngOk (a b : Int) : Prop := -(2 ^ 62) ≤ a ∧ a < 2 ^ 62 ∧ -(2 ^ 62) ≤ b ∧ b < 2 ^ 62
/-- the turns of an iterator, by the items' data -/
def Trn {α : Type} [Py α] (K : PySem.W.Frag) (r0 : List (Addr × HO)) (J : It) (xs : List α) (Ho2 : Hp) : Prop :=
  ∀ i rs' H' Ho', Same Ho2 Ho' → Zs rs' H' Ho' → (∀ r ∈ r0, r ∈ rs') → (∀ a, xs[i]? = some a → J.go i H' ∧ ∀ x H'', J.yld i H' x H'' → ∃ Ho'', Same Ho' Ho'' ∧ (∀ rs, Zs rs H' Ho' → Zs rs H'' Ho'') ∧ D K Ho'' x a) ∧ (xs.length ≤ i → J.stop i H')
section
variable {K : PySem.W.Frag} {rs r0 : List (Addr × HO)} {σ : L2.St} {H Ho : Hp} {ta tb tc te tl : TE} {tt tu : TT} {α β γ : Type} [Py α] [Py β] {p : Addr} {Φ : γ → Prop} {R : It → Hp → Prop} {v u : V}
theorem src_stay {q : Addr} {ys : List V} {rs' : List (Addr × HO)} {H Ho' : Hp} (s : SqL K Ho q ys ∨ (q, HO.lst ys) ∈ rs) (e : Same Ho Ho') (z : Zs rs' H Ho') (sub : ∀ r ∈ rs, r ∈ rs') : SqL K H q ys := by
  rcases s with s | s
  · exact z.le.seq (e.seq s)
  · exact SqL.of (z.rt _ (sub _ s)).1
theorem trn_list {q : Addr} {xs : List α} {v : V} (h : LV K r0 Ho v xs) (hv : v = .ref q) : Trn K r0 (Itl K q) xs Ho := by
  intro i rs' H' Ho' e z sub
  obtain ⟨q', ys, rfl, d, s⟩ := h
  cases hv
  have sq : SqL K H' q ys := src_stay s e z sub
  refine ⟨fun a ha => ?_, fun hl => ⟨ys, sq, by rw [d.len]; exact hl⟩⟩
  obtain ⟨w, ew, dw⟩ := d.get ha
  refine ⟨⟨ys, w, sq, ew⟩, fun x H'' y => ?_⟩
  obtain ⟨rfl, y⟩ := y
  have ex : x = w := Option.some.inj ((y _ sq).symm.trans ew)
  subst ex
  exact ⟨Ho', Same.refl _, fun _ z => z, D.mo dw e⟩
theorem y_iList (k : te σ H fun x H1 => ∃ a, x = .ref a ∧ (∃ xs, SqL K H1 a xs) ∧ R (Itl K a) H1) : iList K te σ H R := k
theorem y_srcL {xs : List α} (d : LV K r0 Ho v xs) (hs : ∀ r ∈ r0, r ∈ rs) (z : Zs rs H Ho) (k : ∀ J, Trn K r0 J xs Ho → R J H) : ∃ a, v = .ref a ∧ (∃ ys, SqL K H a ys) ∧ R (Itl K a) H := by
  obtain ⟨q, ys, rfl, dd, s⟩ := id d
  exact ⟨q, rfl, ⟨ys, src_stay s (Same.refl _) z hs⟩, k _ (trn_list d rfl)⟩
theorem trn_tup {q : Addr} {xs : List α} {ys : List V} (s : Ho q = some (.tup ys)) (d : DL K Ho ys xs) : Trn K [] (Itt K q) xs Ho := by
  intro i rs' H' Ho' e z sub
  have sq : SqT K H' q ys := SqT.of (z.le _ _ (e _ _ s))
  refine ⟨fun a ha => ?_, fun hl => ⟨ys, sq, by rw [d.len]; exact hl⟩⟩
  obtain ⟨w, ew, dw⟩ := d.get ha
  refine ⟨⟨ys, w, sq, ew⟩, fun x H'' y => ?_⟩
  obtain ⟨rfl, y⟩ := y
  have ex : x = w := Option.some.inj ((y _ sq).symm.trans ew)
  subst ex
  exact ⟨Ho', Same.refl _, fun _ z => z, D.mo dw e⟩
theorem y_iTup (k : te σ H fun x H1 => ∃ a, x = .ref a ∧ (∃ xs, SqT K H1 a xs) ∧ R (Itt K a) H1) : iTup K te σ H R := k
/-- over a tuple of things of one kind -/
theorem y_srcT {x : β} {xs : List α} (d : D K Ho v x) (hf : toPy x = .tuple (xs.map Py.toPy)) (z : Zs rs H Ho) (k : ∀ J, Trn K [] J xs Ho → R J H) : ∃ a, v = .ref a ∧ (∃ ys, SqT K H a ys) ∧ R (Itt K a) H := by
  have d : Dq K Ho v (toPy x) := d
  rw [hf] at d
  cases d with
  | tup hs ha => exact ⟨_, rfl, ⟨_, SqT.of (z.le _ _ hs)⟩, k _ (trn_tup hs ha)⟩
theorem rng_get {a b : Int} {i : Nat} {x : Int} (h : (rng a b)[i]? = some x) : i < (b - a).toNat ∧ x = a + i := by
  unfold rng at h
  rw [List.getElem?_map] at h
  cases e : (List.range (b - a).toNat)[i]? with
  | none => rw [e] at h; cases h
  | some k =>
    rw [e] at h
    obtain ⟨hl, ek⟩ := List.getElem?_eq_some_iff.mp e
    rw [List.getElem_range] at ek
    subst ek
    rw [List.length_range] at hl
    exact ⟨hl, (Option.some.inj h).symm⟩
theorem rng_len {a b : Int} : (rng a b).length = (b - a).toNat := by unfold rng; simp
theorem trn_range {a b : Int} : Trn K [] (Itr a (b - a).toNat) (rng a b) Ho := by
  intro i rs' H' Ho' e z sub
  refine ⟨fun x hx => ?_, fun hl => ?_⟩
  · obtain ⟨hi, rfl⟩ := rng_get hx
    refine ⟨hi, fun y H'' yy => ?_⟩
    obtain ⟨rfl, rfl⟩ := yy
    exact ⟨Ho', Same.refl _, fun _ z => z, .int _⟩
  · rw [rng_len] at hl
    exact hl
theorem y_iR1 {ts : TA} (k : ts σ H fun vs H1 => ∃ j : Int, vs = [.int j] ∧ -(2 ^ 62) ≤ j ∧ j < 2 ^ 62 ∧ R (Itr 0 j.toNat) H1) : iRng1 ts σ H R := k
theorem y_iR2 {ts : TA} (k : ts σ H fun vs H1 => ∃ i j : Int, vs = [.int i, .int j] ∧ (-(2 ^ 62) ≤ i ∧ i < 2 ^ 62 ∧ -(2 ^ 62) ≤ j ∧ j < 2 ^ 62) ∧ R (Itr i (j - i).toNat) H1) : iRng2 ts σ H R := k
theorem y_srcR1 {n : Int} (hg : rngOk 0 n) (k : ∀ J, Trn K [] J (rng 0 n) Ho → R J H) : ∃ j : Int, [V.int n] = [.int j] ∧ -(2 ^ 62) ≤ j ∧ j < 2 ^ 62 ∧ R (Itr 0 j.toNat) H := by
  refine ⟨n, rfl, hg.2.2.1, hg.2.2.2, ?_⟩
  have e : n.toNat = (n - 0).toNat := by rw [Int.sub_zero]
  rw [e]
  exact k _ trn_range
theorem y_srcR2 {a b : Int} (hg : rngOk a b) (k : ∀ J, Trn K [] J (rng a b) Ho → R J H) : ∃ i j : Int, [V.int a, V.int b] = [.int i, .int j] ∧ (-(2 ^ 62) ≤ i ∧ i < 2 ^ 62 ∧ -(2 ^ 62) ≤ j ∧ j < 2 ^ 62) ∧ R (Itr i (j - i).toNat) H :=
  ⟨a, b, rfl, hg, k _ trn_range⟩
theorem trn_rangeD {a b : Int} : Trn K [] (Itc a (-1) (a - b).toNat) (rngD a b) Ho := by
  intro i rs' H' Ho' e z sub
  refine ⟨fun x hx => ?_, fun hl => ?_⟩
  · unfold rngD at hx
    rw [List.getElem?_map] at hx
    cases q : (List.range (a - b).toNat)[i]? with
    | none => rw [q] at hx; cases hx
    | some k =>
      rw [q] at hx
      obtain ⟨hl, ek⟩ := List.getElem?_eq_some_iff.mp q
      rw [List.getElem_range] at ek
      subst ek
      rw [List.length_range] at hl
      have ex : x = a - i := (Option.some.inj hx).symm
      subst ex
      refine ⟨hl, fun y H'' yy => ?_⟩
      obtain ⟨rfl, rfl⟩ := yy
      have q2 : a + (i : Int) * -1 = a - i := by omega
      rw [q2]
      exact ⟨Ho', Same.refl _, fun _ z => z, .int _⟩
  · unfold rngD at hl
    rw [List.length_map, List.length_range] at hl
    exact hl
theorem trn_zip {a b : Addr} {xs : List α} {ys : List β} {v u : V} (h : LV K r0 Ho v xs) (hv : v = .ref a) (h' : LV K r0 Ho u ys) (hu : u = .ref b) : Trn K r0 (Itz K a b) (xs.zip ys) Ho := by
  intro i rs' H' Ho' e z sub
  obtain ⟨a', vs, rfl, d, s⟩ := h
  obtain ⟨b', us, rfl, d', s'⟩ := h'
  cases hv
  cases hu
  have sa : SqL K H' a vs := src_stay s e z sub
  have sb : SqL K H' b us := src_stay s' e z sub
  refine ⟨fun p hp => ?_, fun hl => ⟨vs, us, sa, sb, ?_⟩⟩
  · obtain ⟨hx, hy⟩ := List.getElem?_zip_eq_some.mp hp
    obtain ⟨x, ex, dx⟩ := d.get hx
    obtain ⟨y, ey, dy⟩ := d'.get hy
    refine ⟨⟨vs, us, x, y, sa, sb, ex, ey⟩, fun t H'' yy => ?_⟩
    obtain ⟨T, x', y', rfl, hT, rfl, qx, qy⟩ := yy
    have e1 : x' = x := Option.some.inj ((qx _ sa).symm.trans ex)
    have e2 : y' = y := Option.some.inj ((qy _ sb).symm.trans ey)
    subst e1 e2
    have e3 : Same Ho' (upd Ho' T (.tup [x', y'])) := Same.new (z.free hT)
    exact ⟨_, e3, fun _ z => z.alloc hT, .tup upd_same (.cons (D.mo (D.mo dx e) e3) (.cons (D.mo (D.mo dy e) e3) .nil))⟩
  · rw [List.length_zip] at hl
    rw [d.len, d'.len]
    omega
theorem trn_enum {a : Addr} {xs : List α} {v : V} (h : LV K r0 Ho v xs) (hv : v = .ref a) : Trn K r0 (Ite K a) (enumZ xs) Ho := by
  intro i rs' H' Ho' e z sub
  obtain ⟨a', vs, rfl, d, s⟩ := h
  cases hv
  have sa : SqL K H' a vs := src_stay s e z sub
  refine ⟨fun p hp => ?_, fun hl => ⟨vs, sa, ?_⟩⟩
  · obtain ⟨hx, hy⟩ := List.getElem?_zip_eq_some.mp hp
    obtain ⟨_, hx⟩ := rng_get hx
    obtain ⟨y, ey, dy⟩ := d.get hy
    refine ⟨⟨vs, y, sa, ey⟩, fun t H'' yy => ?_⟩
    obtain ⟨T, y', rfl, hT, rfl, qy⟩ := yy
    have e2 : y' = y := Option.some.inj ((qy _ sa).symm.trans ey)
    subst e2
    have e3 : Same Ho' (upd Ho' T (.tup [.int (i : Nat), y'])) := Same.new (z.free hT)
    obtain ⟨p1, p2⟩ := p
    dsimp only at hx
    rw [Int.zero_add] at hx
    subst hx
    exact ⟨_, e3, fun _ z => z.alloc hT, .tup upd_same (.cons (.int _) (.cons (D.mo (D.mo dy e) e3) .nil))⟩
  · unfold enumZ at hl
    rw [List.length_zip, rng_len] at hl
    rw [d.len]
    omega
theorem trn_rev {a : Addr} {xs : List α} {v : V} (h : LV K r0 Ho v xs) (hv : v = .ref a) : Trn K r0 (Itv K a xs.length) xs.reverse Ho := by
  intro i rs' H' Ho' e z sub
  obtain ⟨a', vs, rfl, d, s⟩ := h
  cases hv
  have sa : SqL K H' a vs := src_stay s e z sub
  have hl := d.len
  refine ⟨fun p hp => ?_, fun hl => by rw [List.length_reverse] at hl; exact hl⟩
  have hi : i < xs.length := by
    have := (List.getElem?_eq_some_iff.mp hp).1
    rwa [List.length_reverse] at this
  rw [List.getElem?_reverse hi] at hp
  obtain ⟨x, ex, dx⟩ := d.get hp
  refine ⟨⟨hi, vs, x, sa, ex⟩, fun t H'' yy => ?_⟩
  obtain ⟨rfl, qx⟩ := yy
  have e1 : t = x := Option.some.inj ((qx _ sa).symm.trans ex)
  subst e1
  exact ⟨Ho', Same.refl _, fun _ z => z, D.mo dx e⟩
section
variable {ts : TA}
theorem y_iR3 (k : ts σ H fun vs H1 => ∃ (a b c : Int) (n : Nat), vs = [.int a, .int b, .int c] ∧ RgC a b c n ∧ R (Itc a c n) H1) : iRng3 ts σ H R := k
theorem y_srcR3 {a b : Int} (hg : rngOk b a) (k : ∀ J, Trn K [] J (rngD a b) Ho → R J H) : ∃ (a' b' c : Int) (n : Nat), [V.int a, V.int b, V.int (-1)] = [.int a', .int b', .int c] ∧ RgC a' b' c n ∧ R (Itc a' c n) H :=
  ⟨a, b, -1, _, rfl, RgC.neg hg.2.2.1 hg.2.2.2 hg.1 hg.2.1, k _ trn_rangeD⟩
theorem y_iZip (k : ts σ H fun vs H1 => ∃ a b xs ys, vs = [.ref a, .ref b] ∧ SqL K H1 a xs ∧ SqL K H1 b ys ∧ R (Itz K a b) H1) : iZip K ts σ H R := k
theorem y_srcZ {xs : List α} {ys : List β} (d : LV K r0 Ho v xs) (d' : LV K r0 Ho u ys) (hs : ∀ r ∈ r0, r ∈ rs) (z : Zs rs H Ho) (k : ∀ J, Trn K r0 J (xs.zip ys) Ho → R J H) : ∃ a b xs ys, [v, u] = [.ref a, .ref b] ∧ SqL K H a xs ∧ SqL K H b ys ∧ R (Itz K a b) H := by
  obtain ⟨a', vs, rfl, dd, s⟩ := id d
  obtain ⟨b', us, rfl, dd', s'⟩ := id d'
  exact ⟨a', b', vs, us, rfl, src_stay s (Same.refl _) z hs, src_stay s' (Same.refl _) z hs, k _ (trn_zip d rfl d' rfl)⟩
theorem y_iEnum (k : ts σ H fun vs H1 => ∃ a xs, vs = [.ref a] ∧ SqL K H1 a xs ∧ R (Ite K a) H1) : iEnum K ts σ H R := k
theorem y_srcE {xs : List α} (d : LV K r0 Ho v xs) (hs : ∀ r ∈ r0, r ∈ rs) (z : Zs rs H Ho) (k : ∀ J, Trn K r0 J (enumZ xs) Ho → R J H) : ∃ a xs, [v] = [.ref a] ∧ SqL K H a xs ∧ R (Ite K a) H := by
  obtain ⟨a', vs, rfl, dd, s⟩ := id d
  exact ⟨a', vs, rfl, src_stay s (Same.refl _) z hs, k _ (trn_enum d rfl)⟩
theorem y_iRev (k : ts σ H fun vs H1 => ∃ a xs, vs = [.ref a] ∧ SqL K H1 a xs ∧ R (Itv K a xs.length) H1) : iRev K ts σ H R := k
theorem y_srcV {xs : List α} (d : LV K r0 Ho v xs) (hs : ∀ r ∈ r0, r ∈ rs) (z : Zs rs H Ho) (k : ∀ J, Trn K r0 J xs.reverse Ho → R J H) : ∃ a xs, [v] = [.ref a] ∧ SqL K H a xs ∧ R (Itv K a xs.length) H := by
  obtain ⟨a', vs, rfl, dd, s⟩ := id d
  exact ⟨a', vs, rfl, src_stay s (Same.refl _) z hs, by rw [dd.len]; exact k _ (trn_rev d rfl)⟩
end
/-! ### loops -/
theorem drop_cons {γ : Type} {xs : List γ} {i : Nat} {x : γ} (h : xs[i]? = some x) : xs.drop i = x :: xs.drop (i + 1) := by
  obtain ⟨hi, e⟩ := List.getElem?_eq_some_iff.mp h
  rw [List.drop_eq_getElem_cons hi, e]
def ForG (g : TG) (tb u : TS) (D : Ends) (σ : L2.St) (J : It) (H1 : Hp) : Prop := ∃ W : Nat → Nat → L2.St → Hp → Prop, (∃ m, W 0 m σ H1) ∧ ∀ i m σ H, W i m σ H →
  (J.stop i H ∧ u D σ H) ∨ (J.go i H ∧ ∃ N : L2.St → Hp → Prop, (∀ σ' H', N σ' H' → ∃ m', m' < m ∧ W (i + 1) m' σ' H') ∧ ∀ x H', J.yld i H x H' → g x σ H' fun σ2 H2 => tb { D with nx := N, ct := N, bk := u D } σ2 H2)
variable {g : TG} {u1 tb' : TS} {D : Ends}
theorem y_for {wi_ : TI} (k : wi_ σ H fun J H1 => ForG g tb' u1 D σ J H1) : tSeq (tFor wi_ g tb') u1 D σ H := k
theorem y_forL {S : Type} {J : It} {xs : List α} {s0 : S} {body : α → S → W S} {f : S → W γ} (T : Trn K r0 J xs Ho) (hw : (W.bind (W.forL xs s0 body) f).run Φ) (I : S → L2.St → Hp → Hp → Prop) (i0 : I s0 σ H Ho)
    (hz : ∀ s σ' H' Ho', I s σ' H' Ho' → ∃ rs', Zs rs' H' Ho' ∧ ∀ r ∈ r0, r ∈ rs')
    (im : ∀ s σ' H' Ho' H'' Ho'', I s σ' H' Ho' → Same Ho' Ho'' → (∀ rs, Zs rs H' Ho' → Zs rs H'' Ho'') → I s σ' H'' Ho'')
    (step : ∀ a x s σ' H' Ho' (N : L2.St → Hp → Prop), Same Ho Ho' → I s σ' H' Ho' → Z.D K Ho' x a → (body a s).run (fun s' => ∀ σ'' H'' Ho'', Same Ho' Ho'' → I s' σ'' H'' Ho'' → N σ'' H'') → g x σ' H' fun σ2 H2 => tb' { D with nx := N, ct := N, bk := u1 D } σ2 H2)
    (done : ∀ s σ' H' Ho', Same Ho Ho' → I s σ' H' Ho' → (f s).run Φ → u1 D σ' H') : ForG g tb' u1 D σ J H := by
  refine ⟨fun i m σ' H' => m = xs.length - i ∧ i ≤ xs.length ∧ ∃ s Ho', Same Ho Ho' ∧ I s σ' H' Ho' ∧ (W.bind (W.forL (xs.drop i) s body) f).run Φ, ⟨xs.length, by simp, Nat.zero_le _, s0, Ho, Same.refl _, i0, hw⟩, ?_⟩
  rintro i m σ' H' ⟨rfl, hi, s, Ho', e', hI, hw⟩
  obtain ⟨rs', z', sub⟩ := hz s σ' H' Ho' hI
  have tr := T i rs' H' Ho' e' z' sub
  by_cases hlt : i < xs.length
  · refine .inr ?_
    have hxi := List.getElem?_eq_getElem hlt
    obtain ⟨go, yl⟩ := tr.1 _ hxi
    rw [drop_cons hxi] at hw
    refine ⟨go, fun σ'' H'' => ∃ s' Ho'', Same Ho Ho'' ∧ I s' σ'' H'' Ho'' ∧ (W.bind (W.forL (xs.drop (i + 1)) s' body) f).run Φ, fun σ'' H'' hN => ⟨xs.length - (i + 1), by omega, rfl, hlt, hN⟩, fun x H'' y => ?_⟩
    obtain ⟨Ho3, e3, z3, dx⟩ := yl x H'' y
    refine step _ x s σ' H'' Ho3 _ (e'.trans e3) (im _ _ _ _ _ _ hI e3 z3) dx ?_
    exact W.mono _ _ _ (fun s' hs' σ4 H4 Ho4 e4 hI4 => ⟨s', Ho4, (e'.trans e3).trans e4, hI4, hs'⟩) (show (body xs[i] s).run (fun s' => (W.bind (W.forL (xs.drop (i + 1)) s' body) f).run Φ) from hw)
  · have e : i = xs.length := by omega
    subst e
    rw [List.drop_length] at hw
    exact .inl ⟨tr.2 (Nat.le_refl _), done s σ' H' Ho' e' hI hw⟩
theorem y_forC {S ρ : Type} {J : It} {xs : List α} {s0 : S} {body : α → S → W (Ctl ρ S)} {f : S → W ρ} {Φ : ρ → Prop} (T : Trn K r0 J xs Ho) (hw : (W.bind (W.forC xs s0 body) fun c => W.after c f).run Φ) (I : S → L2.St → Hp → Hp → Prop) (i0 : I s0 σ H Ho)
    (hz : ∀ s σ' H' Ho', I s σ' H' Ho' → ∃ rs', Zs rs' H' Ho' ∧ ∀ r ∈ r0, r ∈ rs')
    (im : ∀ s σ' H' Ho' H'' Ho'', I s σ' H' Ho' → Same Ho' Ho'' → (∀ rs, Zs rs H' Ho' → Zs rs H'' Ho'') → I s σ' H'' Ho'')
    (step : ∀ a x s σ' H' Ho' (N B : L2.St → Hp → Prop), Same Ho Ho' → I s σ' H' Ho' → Z.D K Ho' x a → (body a s).run (CtlP (fun s' => ∀ σ'' H'' Ho'', Same Ho' Ho'' → I s' σ'' H'' Ho'' → N σ'' H'') (fun s' => ∀ σ'' H'' Ho'', Same Ho' Ho'' → I s' σ'' H'' Ho'' → B σ'' H'') Φ) → g x σ' H' fun σ2 H2 => tb' { D with nx := N, ct := N, bk := B } σ2 H2)
    (done : ∀ s σ' H' Ho', Same Ho Ho' → I s σ' H' Ho' → (f s).run Φ → u1 D σ' H') : ForG g tb' u1 D σ J H := by
  refine ⟨fun i m σ' H' => m = xs.length - i ∧ i ≤ xs.length ∧ ∃ s Ho', Same Ho Ho' ∧ I s σ' H' Ho' ∧ (W.bind (W.forC (xs.drop i) s body) fun c => W.after c f).run Φ, ⟨xs.length, by simp, Nat.zero_le _, s0, Ho, Same.refl _, i0, hw⟩, ?_⟩
  rintro i m σ' H' ⟨rfl, hi, s, Ho', e', hI, hw⟩
  obtain ⟨rs', z', sub⟩ := hz s σ' H' Ho' hI
  have tr := T i rs' H' Ho' e' z' sub
  by_cases hlt : i < xs.length
  · refine .inr ?_
    have hxi := List.getElem?_eq_getElem hlt
    obtain ⟨go, yl⟩ := tr.1 _ hxi
    rw [drop_cons hxi] at hw
    refine ⟨go, fun σ'' H'' => ∃ s' Ho'', Same Ho Ho'' ∧ I s' σ'' H'' Ho'' ∧ (W.bind (W.forC (xs.drop (i + 1)) s' body) fun c => W.after c f).run Φ, fun σ'' H'' hN => ⟨xs.length - (i + 1), by omega, rfl, hlt, hN⟩, fun x H'' y => ?_⟩
    obtain ⟨Ho3, e3, z3, dx⟩ := yl x H'' y
    refine step _ x s σ' H'' Ho3 _ (u1 D) (e'.trans e3) (im _ _ _ _ _ _ hI e3 z3) dx ?_
    refine W.mono _ _ _ (fun c hc => ?_) (show (body xs[i] s).run _ from hw)
    cases c with
    | nx s' => exact fun σ4 H4 Ho4 e4 hI4 => ⟨s', Ho4, (e'.trans e3).trans e4, hI4, hc⟩
    | bk s' => exact fun σ4 H4 Ho4 e4 hI4 => done s' σ4 H4 Ho4 ((e'.trans e3).trans e4) hI4 hc
    | rt r => exact hc
  · have e : i = xs.length := by omega
    subst e
    rw [List.drop_length] at hw
    exact .inl ⟨tr.2 (Nat.le_refl _), done s σ' H' Ho' e' hI hw⟩
theorem y_while {S ρ : Type} {s0 : S} {body : S → W (Ctl ρ S)} {f : S → W ρ} {Φ : ρ → Prop} (hw : (W.bind (W.whileL s0 body) fun c => W.after c f).run Φ) (I : S → L2.St → Hp → Hp → Prop) (i0 : I s0 σ H Ho)
    (step : ∀ s σ' H' Ho' (N B : L2.St → Hp → Prop) (E : (L2.St → Hp → Prop) → Prop), E N → Same Ho Ho' → I s σ' H' Ho' → (body s).run (CtlP (fun s' => ∀ σ'' H'' Ho'', Same Ho' Ho'' → I s' σ'' H'' Ho'' → N σ'' H'') (fun s' => ∀ σ'' H'' Ho'', Same Ho' Ho'' → I s' σ'' H'' Ho'' → B σ'' H'') Φ) →
      tt σ' H' fun b H1 => if b = true then ∃ N, E N ∧ tb' { D with nx := N, ct := N, bk := B } σ' H1 else B σ' H1)
    (done : ∀ s σ' H' Ho', Same Ho Ho' → I s σ' H' Ho' → (f s).run Φ → u1 D σ' H') : tSeq (tWhile tt tb') u1 D σ H := by
  obtain ⟨n, hw⟩ := hw
  refine ⟨fun m σ' H' => ∃ s Ho', Same Ho Ho' ∧ I s σ' H' Ho' ∧ (W.bind (W.whileN m s body) fun c => W.after c f).run Φ, ⟨n, s0, Ho, Same.refl _, i0, hw⟩, ?_⟩
  rintro m σ' H' ⟨s, Ho', e', hI, hw⟩
  cases m with
  | zero => exact hw.elim
  | succ m =>
    refine step s σ' H' Ho' (fun σ'' H'' => ∃ s' Ho'', Same Ho Ho'' ∧ I s' σ'' H'' Ho'' ∧ (W.bind (W.whileN m s' body) fun c => W.after c f).run Φ) (u1 D) (fun N => ∀ σ' H', N σ' H' → ∃ m', m' < m + 1 ∧ ∃ s Ho', Same Ho Ho' ∧ I s σ' H' Ho' ∧ (W.bind (W.whileN m' s body) fun c => W.after c f).run Φ) (fun σ2 H2 h2 => ⟨m, Nat.lt_succ_self _, h2⟩) e' hI ?_
    refine W.mono _ _ _ (fun c hc => ?_) (show (body s).run _ from hw)
    cases c with
    | nx s' => exact fun σ4 H4 Ho4 e4 hI4 => ⟨s', Ho4, e'.trans e4, hI4, hc⟩
    | bk s' => exact fun σ4 H4 Ho4 e4 hI4 => done s' σ4 H4 Ho4 (e'.trans e4) hI4 hc
    | rt r => exact hc
end
end Z

/-! # Y3: targets, comprehensions, joins, errors, built-ins -/
namespace Z
open PySem PySem.Spec PyProof.Rows L2
section
variable {K : PySem.W.Frag} {rs r0 : List (Addr × HO)} {σ : L2.St} {H Ho : Hp} {ta tb tc te tl : TE} {tt tu : TT} {α β γ : Type} [Py α] [Py β] {p : Addr} {Φ : γ → Prop} {Q : VK} {v u : V}
/-! ### targets -/
theorem y_gname {i : Nat} {x : V} {σ σ' : L2.St} {Q : L2.St → Hp → Prop} (hs : σ.set i (some x) = σ') (h : Q σ' H) : gName i x σ H Q := by
  show Q _ H
  rw [hs]
  exact h
theorem y_gt2 {i j : Nat} {x : V} {σ : L2.St} {Q : L2.St → Hp → Prop} {a : α × β} (d : D K Ho x a) (z : Zs rs H Ho) (k : ∀ v u, D K Ho v a.1 → D K Ho u a.2 → Q ((σ.set i (some v)).set j (some u)) H) : gTup K 2 (gCons (gName i) (gCons (gName j) gNil)) x σ H Q := by
  cases d with
  | tup hs ha =>
    cases ha with
    | cons h1 h2 =>
      cases h2 with
      | cons h2 h3 =>
        cases h3
        exact ⟨_, _, rfl, SqT.of (z.le _ _ hs), rfl, _, _, rfl, _, _, rfl, rfl, k _ _ h1 h2⟩
theorem y_gt3 {δ : Type} [Py δ] {i j l : Nat} {x : V} {σ : L2.St} {Q : L2.St → Hp → Prop} {a : P3 α β δ} (d : D K Ho x a) (z : Zs rs H Ho) (k : ∀ v u w, D K Ho v a.a → D K Ho u a.b → D K Ho w a.c → Q (((σ.set i (some v)).set j (some u)).set l (some w)) H) :
    gTup K 3 (gCons (gName i) (gCons (gName j) (gCons (gName l) gNil))) x σ H Q := by
  cases d with
  | tup hs ha =>
    cases ha with
    | cons h1 h2 =>
      cases h2 with
      | cons h2 h3 =>
        cases h3 with
        | cons h3 h4 =>
          cases h4
          exact ⟨_, _, rfl, SqT.of (z.le _ _ hs), rfl, _, _, rfl, _, _, rfl, _, _, rfl, rfl, k _ _ _ h1 h2 h3⟩
theorem y_gt4 {δ ε : Type} [Py δ] [Py ε] {i j l m : Nat} {x : V} {σ : L2.St} {Q : L2.St → Hp → Prop} {a : P4 α β δ ε} (d : D K Ho x a) (z : Zs rs H Ho) (k : ∀ v u w t, D K Ho v a.a → D K Ho u a.b → D K Ho w a.c → D K Ho t a.d → Q ((((σ.set i (some v)).set j (some u)).set l (some w)).set m (some t)) H) :
    gTup K 4 (gCons (gName i) (gCons (gName j) (gCons (gName l) (gCons (gName m) gNil)))) x σ H Q := by
  cases d with
  | tup hs ha =>
    cases ha with
    | cons h1 h2 =>
      cases h2 with
      | cons h2 h3 =>
        cases h3 with
        | cons h3 h4 =>
          cases h4 with
          | cons h4 h5 =>
            cases h5
            exact ⟨_, _, rfl, SqT.of (z.le _ _ hs), rfl, _, _, rfl, _, _, rfl, _, _, rfl, _, _, rfl, rfl, k _ _ _ _ h1 h2 h3 h4⟩
/-! ### comprehensions -/
def comp {α β : Type} : List α → List β → (α → W Bool) → (α → W β) → W (List β)
  | [], acc, _, _ => W.ret acc
  | x :: xs, acc, t, f => W.bind (t x) fun b => W.ite b (W.bind (f x) fun y => comp xs (acc ++ [y]) t f) (comp xs acc t f)
def compG {α β : Type} (xs : List α) (t : α → W Bool) (f : α → W β) : W (List β) := W.guard (xs.length ≤ sizeLine) (comp xs [] t f)
/-- with a state -/
def compS {α β S : Type} : List α → List β → S → (α → S → W (Option β × S)) → W (List β × S)
  | [], acc, s, _ => W.ret (acc, s)
  | x :: xs, acc, s, f => W.bind (f x s) fun r => match r.1 with
    | none => compS xs acc r.2 f
    | some y => compS xs (acc ++ [y]) r.2 f
def compSG {α β S : Type} (xs : List α) (s : S) (f : α → S → W (Option β × S)) : W (List β × S) := W.guard (xs.length ≤ sizeLine) (compS xs [] s f)
def LcG (g : TG) (tt : TT) (te : TE) (vs : List Nat) (σ : L2.St) (Q : VK) (J : It) (H1 : Hp) : Prop := ∀ D, H1 D = none → ∃ W : Nat → Nat → Hp → Prop, (∃ m, W 0 m (upd H1 D (.lst []))) ∧ ∀ i m H, W i m H →
  (J.stop i H ∧ Q (.ref D) H) ∨ (J.go i H ∧ ∃ Nx : Hp → Prop, (∀ H', Nx H' → ∃ m', m' < m ∧ W (i + 1) m' H') ∧ ∀ x H', J.yld i H x H' → g x (wipe σ vs) H' fun σ2 H2 => wipe σ2 vs = wipe σ vs ∧ tt σ2 H2 fun b H3 =>
    if b = true then te σ2 H3 fun y H4 => ∃ acc, H4 D = some (.lst acc) ∧ acc.length < sizeLine ∧ Nx (upd H4 D (.lst (acc ++ [y]))) else Nx H3)
variable {g : TG} {vs : List Nat} {wi : TI}
theorem y_lc (k : wi σ H fun J H1 => LcG g tt te vs σ Q J H1) : tLc wi g tt te vs σ H Q := k
theorem y_yes {QB : Bool → Hp → Prop} (k : QB true H) : tYes σ H QB := k
theorem y_lcG {J : It} {xs : List α} {ct : α → W Bool} {cf : α → W β} {f : List β → W γ} (z : Zs rs H Ho) (hr : ∀ r ∈ r0, r ∈ rs) (T : Trn K r0 J xs Ho) (hw : (W.bind (compG xs ct cf) f).run Φ)
    (hx : ∀ (r : Addr × HO) a x H' Ho' (N : VK) (N' : Hp → Prop), Same Ho Ho' → Zs (r :: rs) H' Ho' → Z.D K Ho' x a →
      (W.bind (ct a) fun b => W.ite b (cf a) ⟨fun Ψ => ∀ H'' Ho'', Same Ho' Ho'' → Zs (r :: rs) H'' Ho'' → N' H'', fun _ _ _ q => q⟩).run (fun y => ∀ w H'' Ho'', Same Ho' Ho'' → Zs (r :: rs) H'' Ho'' → Z.D K Ho'' w y → N w H'') →
      g x (wipe σ vs) H' fun σ2 H2 => wipe σ2 vs = wipe σ vs ∧ tt σ2 H2 fun b H3 => if b = true then te σ2 H3 N else N' H3)
    (k : ∀ ys H' Ho', Same Ho Ho' → (f ys).run Φ → ∀ p ws, Zs ((p, .lst ws) :: rs) H' Ho' → DL K Ho' ws ys → Q (.ref p) H') : LcG g tt te vs σ Q J H := by
  intro Dn hD
  obtain ⟨hsz, hw⟩ := hw
  refine ⟨fun i m H => m = xs.length - i ∧ i ≤ xs.length ∧ ∃ (Ho' : Hp) (acc : List β) (acs : List V), Same Ho Ho' ∧ Zs ((Dn, .lst acs) :: rs) H Ho' ∧ DL K Ho' acs acc ∧ acs.length ≤ i ∧ (comp (xs.drop i) acc ct cf).run fun ys => (f ys).run Φ,
    ⟨xs.length, by simp, Nat.zero_le _, Ho, [], [], Same.refl _, z.root hD, .nil, Nat.le_refl _, hw⟩, ?_⟩
  rintro i m H ⟨rfl, hi, Ho', acc, acs, e', z', da, la, hw⟩
  have tr := T i _ H Ho' e' z' fun r hrr => List.mem_cons_of_mem _ (hr r hrr)
  by_cases hlt : i < xs.length
  · refine .inr ?_
    have hxi := List.getElem?_eq_getElem hlt
    obtain ⟨go, yl⟩ := tr.1 _ hxi
    refine ⟨go, fun H' => ∃ (Ho' : Hp) (acc : List β) (acs : List V), Same Ho Ho' ∧ Zs ((Dn, .lst acs) :: rs) H' Ho' ∧ DL K Ho' acs acc ∧ acs.length ≤ i + 1 ∧ (comp (xs.drop (i + 1)) acc ct cf).run fun ys => (f ys).run Φ, fun H' hN => ⟨xs.length - (i + 1), by omega, rfl, hlt, hN⟩, fun x H' y => ?_⟩
    obtain ⟨Ho2, e2, z2, dx⟩ := yl x H' y
    rw [drop_cons hxi] at hw
    refine hx (Dn, .lst acs) _ x H' Ho2 _ _ (e'.trans e2) (z2 _ z') dx ?_
    have hw : (ct xs[i]).run fun b => (W.ite b (W.bind (cf xs[i]) fun y => comp (xs.drop (i + 1)) (acc ++ [y]) ct cf) (comp (xs.drop (i + 1)) acc ct cf)).run fun ys => (f ys).run Φ := hw
    show (ct xs[i]).run _
    refine W.mono _ _ _ (fun b hb => ?_) hw
    refine ⟨fun e => ?_, fun e H'' Ho'' e3 z3 => ?_⟩
    · refine W.mono _ _ _ (fun y hy w H'' Ho'' e3 z3 dw => ?_) (hb.1 e)
      refine ⟨acs, z3.head, by omega, Ho'', acc ++ [y], acs ++ [w], (e'.trans e2).trans e3, z3.put, (DL.mo (DL.mo da e2) e3).push dw, ?_, hy⟩
      rw [List.length_append]
      exact Nat.succ_le_succ la
    · exact ⟨Ho'', acc, acs, (e'.trans e2).trans e3, z3, DL.mo (DL.mo da e2) e3, Nat.le_succ_of_le la, hb.2 e⟩
  · have e : i = xs.length := by omega
    subst e
    refine .inl ⟨tr.2 (Nat.le_refl _), ?_⟩
    rw [List.drop_length] at hw
    exact k acc H Ho' e' hw Dn acs z' da
theorem y_lcS {S : Type} {J : It} {xs : List α} {s0 : S} {body : α → S → W (Option β × S)} {f : List β × S → W γ} (z : Zs rs H Ho) (T : Trn K r0 J xs Ho) (hw : (W.bind (compSG xs s0 body) f).run Φ) (I : (Addr × HO) → S → Hp → Hp → Prop)
    (i0 : ∀ r H', Zs (r :: rs) H' Ho → I r s0 H' Ho)
    (iz : ∀ r s H' Ho', I r s H' Ho' → ∃ rs', Zs (r :: rs') H' Ho' ∧ ∀ q ∈ r0, q ∈ rs')
    (im : ∀ r s H' Ho' H'' Ho'', I r s H' Ho' → Same Ho' Ho'' → (∀ rs, Zs rs H' Ho' → Zs rs H'' Ho'') → I r s H'' Ho'')
    (ip : ∀ p o o' s H' Ho', NotTup o' → I (p, o) s H' Ho' → I (p, o') s (upd H' p o') Ho')
    (hx : ∀ (r : Addr × HO) a x s H' Ho' (N : VK) (N' : Hp → Prop), Same Ho Ho' → I r s H' Ho' → Z.D K Ho' x a →
      (body a s).run (fun q => match q.1 with | some y => ∀ w H'' Ho'', Same Ho' Ho'' → I r q.2 H'' Ho'' → Z.D K Ho'' w y → N w H'' | none => ∀ H'' Ho'', Same Ho' Ho'' → I r q.2 H'' Ho'' → N' H'') →
      g x (wipe σ vs) H' fun σ2 H2 => wipe σ2 vs = wipe σ vs ∧ tt σ2 H2 fun b H3 => if b = true then te σ2 H3 N else N' H3)
    (k : ∀ ys s p ws H' Ho', Same Ho Ho' → I (p, .lst ws) s H' Ho' → DL K Ho' ws ys → (f (ys, s)).run Φ → Q (.ref p) H') : LcG g tt te vs σ Q J H := by
  intro Dn hD
  obtain ⟨hsz, hw⟩ := hw
  refine ⟨fun i m H => m = xs.length - i ∧ i ≤ xs.length ∧ ∃ (Ho' : Hp) (acc : List β) (acs : List V) (s : S), Same Ho Ho' ∧ I (Dn, .lst acs) s H Ho' ∧ DL K Ho' acs acc ∧ acs.length ≤ i ∧ (compS (xs.drop i) acc s body).run fun q => (f q).run Φ,
    ⟨xs.length, by simp, Nat.zero_le _, Ho, [], [], s0, Same.refl _, i0 _ _ (z.root hD), .nil, Nat.le_refl _, hw⟩, ?_⟩
  rintro i m H ⟨rfl, hi, Ho', acc, acs, s, e', hI, da, la, hw⟩
  obtain ⟨rs', z', sub⟩ := iz _ _ _ _ hI
  have tr := T i _ H Ho' e' z' fun r hrr => List.mem_cons_of_mem _ (sub r hrr)
  by_cases hlt : i < xs.length
  · refine .inr ?_
    have hxi := List.getElem?_eq_getElem hlt
    obtain ⟨go, yl⟩ := tr.1 _ hxi
    refine ⟨go, fun H' => ∃ (Ho' : Hp) (acc : List β) (acs : List V) (s : S), Same Ho Ho' ∧ I (Dn, .lst acs) s H' Ho' ∧ DL K Ho' acs acc ∧ acs.length ≤ i + 1 ∧ (compS (xs.drop (i + 1)) acc s body).run fun q => (f q).run Φ, fun H' hN => ⟨xs.length - (i + 1), by omega, rfl, hlt, hN⟩, fun x H' y => ?_⟩
    obtain ⟨Ho2, e2, z2, dx⟩ := yl x H' y
    rw [drop_cons hxi] at hw
    refine hx (Dn, .lst acs) _ x s H' Ho2 _ _ (e'.trans e2) (im _ _ _ _ _ _ hI e2 z2) dx ?_
    refine W.mono _ _ _ (fun q hq => ?_) (show (body xs[i] s).run _ from hw)
    obtain ⟨o, s'⟩ := q
    cases o with
    | some y =>
      intro w H'' Ho'' e3 hI3 dw
      obtain ⟨rs3, z3, _⟩ := iz _ _ _ _ hI3
      refine ⟨acs, z3.head, by omega, Ho'', acc ++ [y], acs ++ [w], s', (e'.trans e2).trans e3, ip _ _ _ _ _ _ trivial hI3, (DL.mo (DL.mo da e2) e3).push dw, ?_, hq⟩
      rw [List.length_append]
      exact Nat.succ_le_succ la
    | none =>
      intro H'' Ho'' e3 hI3
      exact ⟨Ho'', acc, acs, s', (e'.trans e2).trans e3, hI3, DL.mo (DL.mo da e2) e3, Nat.le_succ_of_le la, hq⟩
  · have e : i = xs.length := by omega
    subst e
    refine .inl ⟨tr.2 (Nat.le_refl _), ?_⟩
    rw [List.drop_length] at hw
    exact k acc s Dn acs H Ho' e' hI da hw
/-! ### where ways meet -/
theorem y_join {ρ β : Type} {a : Bool} {c1 c2 : W β} {f : β → W γ} {X Y : Prop} {Q : ρ → Hp → Prop} (hw : (W.bind (W.ite a c1 c2) f).run Φ) (J : β → ρ → Hp → Prop)
    (h1 : a = true → (∀ r v H', J r v H' → (f r).run Φ → Q v H') → (W.bind c1 f).run Φ → X)
    (h2 : a = false → (∀ r v H', J r v H' → (f r).run Φ → Q v H') → (W.bind c2 f).run Φ → Y)
    (k : ∀ r v H', J r v H' → (f r).run Φ → Q v H') : if a = true then X else Y := by
  cases a with
  | true => exact iteT (h1 rfl k (hw.1 rfl))
  | false => exact iteF (h2 rfl k (hw.2 rfl))
/-- both ways are total and lay nothing down -/
theorem y_andP {a : Bool} (b : Bool) {X : Prop} {Q : Bool → Hp → Prop} (h : a = true → Q b H → X) (k : Q (a && b) H) : if a = true then X else Q false H := by
  cases a with
  | true => exact iteT (h rfl k)
  | false => exact iteF k
theorem y_orP {a : Bool} (b : Bool) {X : Prop} {Q : Bool → Hp → Prop} (h : a = false → Q b H → X) (k : Q (a || b) H) : if a = true then Q true H else X := by
  cases a with
  | true => exact iteT k
  | false => exact iteF (h rfl k)
theorem y_andPV {a : Bool} (b : Bool) {X : Prop} (h : a = true → Q (.bl b) H → X) (k : Q (.bl (a && b)) H) : if a = true then X else Q (.bl false) H := by
  cases a with
  | true => exact iteT (h rfl k)
  | false => exact iteF k
theorem y_orPV {a : Bool} (b : Bool) {X : Prop} (h : a = false → Q (.bl b) H → X) (k : Q (.bl (a || b)) H) : if a = true then Q (.bl true) H else X := by
  cases a with
  | true => exact iteT k
  | false => exact iteF (h rfl k)
/-! ### errors -/
def ExP {α : Type} (N : α → Prop) (R : Er → Prop) : Ex α → Prop
  | .ok a => N a
  | .er e => R e
theorem exP_ok {α : Type} {N : α → Prop} {R : Er → Prop} {a : α} (h : ExP N R (.ok a)) : N a := h
theorem exP_er {α : Type} {N : α → Prop} {R : Er → Prop} {e : Er} (h : ExP N R (.er e)) : R e := h
def W.exm {α β : Type} (c : W (Ex α)) (f : α → W β) (g : Er → W β) : W β := W.bind c fun r => match r with
  | .ok a => f a
  | .er e => g e
/-- where nothing may be raised -/
def W.sure {α : Type} (c : W (Ex α)) : W α := W.exm c W.ret fun _ => W.bad
theorem run_exm {α β : Type} {c : W (Ex α)} {f : α → W β} {g : Er → W β} {Φ : β → Prop} (h : (W.exm c f g).run Φ) : c.run (ExP (fun a => (f a).run Φ) fun e => (g e).run Φ) :=
  W.mono _ _ _ (fun r hr => by cases r with | ok a => exact hr | er e => exact hr) h
theorem exm_run {α β : Type} {c : W (Ex α)} {f : α → W β} {g : Er → W β} {Φ : β → Prop} (h : c.run (ExP (fun a => (f a).run Φ) fun e => (g e).run Φ)) : (W.exm c f g).run Φ :=
  c.mono (ExP (fun a => (f a).run Φ) fun e => (g e).run Φ) _ (fun r hr => by cases r with | ok a => exact hr | er e => exact hr) h
theorem run_sure {α β : Type} {c : W (Ex α)} {f : α → W β} {Φ : β → Prop} (h : (W.bind (W.sure c) f).run Φ) : c.run (ExP (fun a => (f a).run Φ) fun _ => False) := run_exm h
theorem y_callS {sp : Sp} {E : L2.St → XK} {ts : TA} (k : ts σ H fun vs H1 => sp vs H1 Q (E σ)) : tCallS sp E ts σ H Q := k
def tRaise (C : Addr) (Wx : WX) : TS := fun _ σ H => Wx (.ref C) none σ H
theorem y_raise {C : Addr} {Wx : WX} {w : TS} {D : Ends} (k : Wx (.ref C) none σ H) : tSeq (tRaise C Wx) w D σ H := k
def tTryAs (K : PySem.W.Frag) (c : Value) (i : Nat) (tb : WX → TS) (ts : Addr → Value → Option Addr → TS) (Wout : WX) : TS := fun D σ H => tb (wAs K c i ts Wout D) D σ H
def tTryOnly (K : PySem.W.Frag) (c : Value) (tb : WX → TS) (ts : Addr → Value → Option Addr → TS) (Wout : WX) : TS := fun D σ H => tb (wOnly K c ts Wout D) D σ H
variable {cl : Nat → Addr} {Wout : WX} {D : Ends} {u1 : TS} {i : Nat}
theorem y_tryJ {S : Type} {c : Value} {cb : W (Ex S)} {cs : Er → W S} {f : S → W γ} {tb : WX → TS} {ts : Addr → Value → Option Addr → TS} {sub : Nat → Bool} (σ' : Addr → L2.St) (hm : ∀ n, PySem.W.exmOne K (.ref (cl n)) c = some (sub n)) (z : Zs rs H Ho)
    (hw : (W.bind (W.exm cb W.ret fun e => W.guard (sub e.cls = true) (cs e)) f).run Φ) (J : S → L2.St → Hp → Hp → Prop) (hσ : ∀ a, σ.set i (some (.ref a)) = σ' a)
    (hb : ∀ (Wx : WX) (N : L2.St → Hp → Prop), cb.run (ExP (fun s => ∀ σ' H'' Ho'', Same Ho Ho'' → J s σ' H'' Ho'' → N σ' H'') fun e => ∀ H' Ho', Same Ho Ho' → Zs rs H' Ho' → Wx (.ref (cl e.cls)) none σ H') → tb Wx { D with nx := N } σ H)
    (hs : ∀ e a H' Ho' (N : L2.St → Hp → Prop), Same Ho Ho' → Zs rs H' Ho' → H' a = none → (cs e).run (fun s => ∀ σ' H'' Ho'', Same Ho' Ho'' → J s σ' H'' Ho'' → N σ' H'') →
      ts a (.ref (cl e.cls)) none { nx := fun σ' H' => N (σ'.set i none) H', rt := D.rt, bk := fun σ' H' => D.bk (σ'.set i none) H', ct := fun σ' H' => D.ct (σ'.set i none) H' } (σ' a) H')
    (k : ∀ s σ' H' Ho', Same Ho Ho' → J s σ' H' Ho' → (f s).run Φ → u1 D σ' H') : tSeq (tTryAs K c i tb ts Wout) u1 D σ H := by
  refine hb _ _ (W.mono _ _ _ (fun r hr => ?_) (run_exm hw))
  cases r with
  | ok s => exact fun σ' H' Ho' e j => k s σ' H' Ho' e j hr
  | er r =>
    refine fun H' Ho' e z' => ⟨true, by rw [hm, hr.1], fun _ a ha => ?_, fun q => nomatch q⟩
    rw [hσ]
    exact hs r a H' Ho' (u1 D) e z' ha (W.mono _ _ _ (fun s hs σ' H'' Ho'' e'' j => k s σ' H'' Ho'' (e.trans e'') j hs) hr.2)
theorem y_tryOJ {S : Type} {c : Value} {cb : W (Ex S)} {cs : Er → W S} {f : S → W γ} {tb : WX → TS} {ts : Addr → Value → Option Addr → TS} {sub : Nat → Bool} (hm : ∀ n, PySem.W.exmOne K (.ref (cl n)) c = some (sub n)) (z : Zs rs H Ho)
    (hw : (W.bind (W.exm cb W.ret fun e => W.guard (sub e.cls = true) (cs e)) f).run Φ) (J : S → L2.St → Hp → Hp → Prop)
    (hb : ∀ (Wx : WX) (N : L2.St → Hp → Prop), cb.run (ExP (fun s => ∀ σ' H'' Ho'', Same Ho Ho'' → J s σ' H'' Ho'' → N σ' H'') fun e => ∀ H' Ho', Same Ho Ho' → Zs rs H' Ho' → Wx (.ref (cl e.cls)) none σ H') → tb Wx { D with nx := N } σ H)
    (hs : ∀ e a H' Ho' (N : L2.St → Hp → Prop), Same Ho Ho' → Zs rs H' Ho' → H' a = none → (cs e).run (fun s => ∀ σ' H'' Ho'', Same Ho' Ho'' → J s σ' H'' Ho'' → N σ' H'') → ts a (.ref (cl e.cls)) none { D with nx := N } σ H')
    (k : ∀ s σ' H' Ho', Same Ho Ho' → J s σ' H' Ho' → (f s).run Φ → u1 D σ' H') : tSeq (tTryOnly K c tb ts Wout) u1 D σ H := by
  refine hb _ _ (W.mono _ _ _ (fun r hr => ?_) (run_exm hw))
  cases r with
  | ok s => exact fun σ' H' Ho' e j => k s σ' H' Ho' e j hr
  | er r =>
    refine fun H' Ho' e z' => ⟨true, by rw [hm, hr.1], fun _ a ha => ?_, fun q => nomatch q⟩
    exact hs r a H' Ho' (u1 D) e z' ha (W.mono _ _ _ (fun s hs σ' H'' Ho'' e'' j => k s σ' H'' Ho'' (e.trans e'') j hs) hr.2)
/-! ### built-ins by values -/
def rLenZ (K : PySem.W.Frag) : List V → Hp → VK → Prop := fun xs H Q => ∃ p ys, xs = [.ref p] ∧ (SqL K H p ys ∨ SqT K H p ys) ∧ Q (.int ys.length) H
def rListZ (K : PySem.W.Frag) : List V → Hp → VK → Prop := fun xs H Q => ∃ p ys, xs = [.ref p] ∧ (SqL K H p ys ∨ SqT K H p ys) ∧ ∀ l, H l = none → Q (.ref l) (upd H l (.lst ys))
theorem y_len {xs : List α} (d : LV K rs Ho v xs) (z : Zs rs H Ho) (k : Q (.int (xs.length : Int)) H) : rLenZ K [v] H Q := by
  obtain ⟨p, vs, rfl, d, s⟩ := LV.rd d z
  refine ⟨p, vs, rfl, .inl s, ?_⟩
  rw [d.len]
  exact k
theorem y_list {xs : List α} (d : LV K rs Ho v xs) (z : Zs rs H Ho) (k : ∀ H' p ws, Zs ((p, .lst ws) :: rs) H' Ho → DL K Ho ws xs → Q (.ref p) H') : rListZ K [v] H Q := by
  obtain ⟨p, vs, rfl, d, s⟩ := LV.rd d z
  exact ⟨p, vs, rfl, .inl s, fun q hq => k _ q _ (z.root hq) d⟩
theorem y_abs {a : Int} (k : Q (.int (if a < 0 then -a else a)) H) : (fun xs H Q => ∃ i, xs = [.int i] ∧ Q (.int (if i < 0 then -i else i)) H : List V → Hp → VK → Prop) [.int a] H Q := ⟨a, rfl, k⟩
theorem y_intB {a : Bool} (k : Q (.int (if a then 1 else 0)) H) : (fun xs H Q => (∃ i, xs = [.int i] ∧ Q (.int i) H) ∨ ∃ k, xs = [.bl k] ∧ Q (.int (if k then 1 else 0)) H : List V → Hp → VK → Prop) [.bl a] H Q := .inr ⟨a, rfl, k⟩
theorem y_min2 {a b : Int} (k : Q (.int (if b < a then b else a)) H) : (fun xs H Q => ∃ i j, xs = [.int i, .int j] ∧ Q (.int (if j < i then j else i)) H : List V → Hp → VK → Prop) [.int a, .int b] H Q := ⟨a, b, rfl, k⟩
theorem y_max2 {a b : Int} (k : Q (.int (if b > a then b else a)) H) : (fun xs H Q => ∃ i j, xs = [.int i, .int j] ∧ Q (.int (if j > i then j else i)) H : List V → Hp → VK → Prop) [.int a, .int b] H Q := ⟨a, b, rfl, k⟩
theorem y_all {xs : List Bool} (d : LV K rs Ho v xs) (z : Zs rs H Ho) (k : Q (.bl (xs.all id)) H) : rAll K [v] H Q := by
  obtain ⟨p, vs, rfl, d, s⟩ := LV.rd d z
  rw [dl_bools d] at s
  exact ⟨p, xs, rfl, s, k⟩
theorem y_any {xs : List Bool} (d : LV K rs Ho v xs) (z : Zs rs H Ho) (k : Q (.bl (xs.any id)) H) : rAny K [v] H Q := by
  obtain ⟨p, vs, rfl, d, s⟩ := LV.rd d z
  rw [dl_bools d] at s
  exact ⟨p, xs, rfl, s, k⟩
theorem y_sum {xs : List Int} (d : LV K rs Ho v xs) (z : Zs rs H Ho) (k : Q (.int xs.sum) H) : rSum K [v] H Q := by
  obtain ⟨p, vs, rfl, d, s⟩ := LV.rd d z
  rw [dl_ints d] at s
  exact ⟨p, xs, rfl, s, k⟩
def srtI (xs : List Int) : List Int := xs.mergeSort fun a b => decide (a ≤ b)
theorem srtI_perm (xs : List Int) : (srtI xs).Perm xs := List.mergeSort_perm xs _
theorem srtI_srt (xs : List Int) : (srtI xs).Pairwise (· ≤ ·) := by
  have h := List.pairwise_mergeSort (le := fun a b : Int => decide (a ≤ b)) (fun a b c h1 h2 => by simp at h1 h2 ⊢; omega) (fun a b => by simp; omega) xs
  exact h.imp fun h => of_decide_eq_true h
theorem srtI_of {xs ys : List Int} (h : ys.Perm xs) (hs : ys.Pairwise (· ≤ ·)) : ys = srtI xs :=
  List.Perm.eq_of_pairwise (le := (· ≤ ·)) (fun a b _ _ h1 h2 => Int.le_antisymm h1 h2) hs (srtI_srt xs) (h.trans (srtI_perm xs).symm)
theorem y_sortI {xs : List Int} (d : LV K rs Ho v xs) (z : Zs rs H Ho) (k : ∀ H' p ws, Zs ((p, .lst ws) :: rs) H' Ho → DL K Ho ws (srtI xs) → Q (.ref p) H') : rSortedI K [v] H Q := by
  obtain ⟨p, vs, rfl, d, s⟩ := LV.rd d z
  rw [dl_ints d] at s
  refine ⟨p, xs, rfl, s, fun ns' q hp hs hq => ?_⟩
  rw [srtI_of hp hs]
  exact k _ q _ (z.root hq) ints_dl
def mxD (ns : List Int) (d : Int) : Int := match ns with
  | [] => d
  | x :: xs => xs.foldl (fun a y => if decide (a < y) = true then y else a) x
def mnD (ns : List Int) (d : Int) : Int := match ns with
  | [] => d
  | x :: xs => xs.foldl (fun a y => if decide (y < a) = true then y else a) x
def rMxD (K : PySem.W.Frag) : List V → List V → Hp → VK → Prop := fun vs zs H Q => ∃ (a : Addr) (ns : List Int) (d : Int), vs = [V.ref a] ∧ zs = [V.int d] ∧ SqL K H a (ns.map V.int) ∧ Q (.int (mxD ns d)) H
def rMnD (K : PySem.W.Frag) : List V → List V → Hp → VK → Prop := fun vs zs H Q => ∃ (a : Addr) (ns : List Int) (d : Int), vs = [V.ref a] ∧ zs = [V.int d] ∧ SqL K H a (ns.map V.int) ∧ Q (.int (mnD ns d)) H
theorem hold_ints {h : Heap} : ∀ {ns : List Int} {us : List Value}, Vals (ns.map V.int) us → PySem.W.HoldAll h us ns
  | [], us, r => by cases r; exact PySem.W.HoldAll.nil
  | n :: ns, us, r => by
    cases r with
    | cons r1 r2 =>
      obtain ⟨t, rfl⟩ := r1
      exact PySem.W.HoldAll.cons (PySem.W.holds_int n t) (hold_ints r2)
theorem zmxD {X : Cx} {K : PySem.W.Frag} (hK : X.K = K) (hc : X.calm = true) (hu : X.A.units + 64 < cLine) : CallRK X (.builtin "max") [Str.ofString "default"] (rMxD K) := by
  subst hK
  intro pins s σ H vs zs us ws Q I r rz h
  obtain ⟨a, ns, d, rfl, rfl, hs, q⟩ := h
  obtain rfl := Vals.ref1 r
  obtain ⟨w1, rfl, t, rfl⟩ := vals1 rz
  obtain ⟨its, rv, hl, hz⟩ := I.list hs
  refine PySem.W.max_list_datum_default (α := Int) (I.ok.hd hc) hl.isList (hold_ints rv) (by show X.A.units + 1 + 0 < cLine; omega) (fun e h' tk k => ⟨.int d, H, I.kept (t' := tk) k, ⟨t, rfl⟩, ?_⟩) fun y ys i v h' tk e hi hh k => ?_
  · subst e; exact q
  · subst e
    obtain ⟨t', rfl⟩ := PySem.W.int_of_holds hh
    exact ⟨.int _, H, I.kept (t' := tk) k, ⟨t', rfl⟩, q⟩
theorem zmnD {X : Cx} {K : PySem.W.Frag} (hK : X.K = K) (hc : X.calm = true) (hu : X.A.units + 64 < cLine) : CallRK X (.builtin "min") [Str.ofString "default"] (rMnD K) := by
  subst hK
  intro pins s σ H vs zs us ws Q I r rz h
  obtain ⟨a, ns, d, rfl, rfl, hs, q⟩ := h
  obtain rfl := Vals.ref1 r
  obtain ⟨w1, rfl, t, rfl⟩ := vals1 rz
  obtain ⟨its, rv, hl, hz⟩ := I.list hs
  refine PySem.W.min_list_datum_default (α := Int) (I.ok.hd hc) hl.isList (hold_ints rv) (by show X.A.units + 1 + 0 < cLine; omega) (fun e h' tk k => ⟨.int d, H, I.kept (t' := tk) k, ⟨t, rfl⟩, ?_⟩) fun y ys i v h' tk e hi hh k => ?_
  · subst e; exact q
  · subst e
    obtain ⟨t', rfl⟩ := PySem.W.int_of_holds hh
    exact ⟨.int _, H, I.kept (t' := tk) k, ⟨t', rfl⟩, q⟩
theorem y_ckw {r : List V → List V → Hp → VK → Prop} {ts tk : TA} (k : ts σ H fun vs H1 => tk σ H1 fun zs H2 => r vs zs H2 Q) : tCKw r ts tk σ H Q := k
theorem y_mxD {xs : List Int} {a : Int} (d : LV K rs Ho v xs) (z : Zs rs H Ho) (k : Q (.int (mxD xs a)) H) : rMxD K [v] [.int a] H Q := by
  obtain ⟨p, vs, rfl, d, s⟩ := LV.rd d z
  rw [dl_ints d] at s
  exact ⟨p, xs, a, rfl, rfl, s, k⟩
theorem y_mnD {xs : List Int} {a : Int} (d : LV K rs Ho v xs) (z : Zs rs H Ho) (k : Q (.int (mnD xs a)) H) : rMnD K [v] [.int a] H Q := by
  obtain ⟨p, vs, rfl, d, s⟩ := LV.rd d z
  rw [dl_ints d] at s
  exact ⟨p, xs, a, rfl, rfl, s, k⟩
/-- min, max of a list that is not empty -/
def mxL (xs : List Int) : W Int := W.guard (0 < xs.length) (W.ret (mxD xs 0))
def mnL (xs : List Int) : W Int := W.guard (0 < xs.length) (W.ret (mnD xs 0))
theorem mxF : ∀ (xs : List Int) (x : Int), (xs.foldl (fun a y => if decide (a < y) = true then y else a) x) ∈ x :: xs ∧ ∀ y ∈ x :: xs, y ≤ xs.foldl (fun a y => if decide (a < y) = true then y else a) x
  | [], x => by simp
  | y :: ys, x => by
    have ih := mxF ys (if decide (x < y) = true then y else x)
    simp only [List.foldl_cons]
    generalize hr : ys.foldl (fun a y => if decide (a < y) = true then y else a) (if decide (x < y) = true then y else x) = r at ih
    obtain ⟨h1, h2⟩ := ih
    by_cases c : x < y
    · simp only [decide_eq_true c, if_true] at h1 h2
      refine ⟨List.mem_cons_of_mem _ h1, fun z hz => ?_⟩
      rcases List.mem_cons.mp hz with rfl | hz
      · have := h2 y List.mem_cons_self; omega
      · exact h2 z hz
    · simp only [decide_eq_false c, Bool.false_eq_true, if_false] at h1 h2
      refine ⟨?_, fun z hz => ?_⟩
      · rcases List.mem_cons.mp h1 with h | h
        · rw [h]; exact List.mem_cons_self
        · exact List.mem_cons_of_mem _ (List.mem_cons_of_mem _ h)
      · rcases List.mem_cons.mp hz with rfl | hz
        · exact h2 _ List.mem_cons_self
        · rcases List.mem_cons.mp hz with rfl | hz
          · have := h2 x List.mem_cons_self; omega
          · exact h2 z (List.mem_cons_of_mem _ hz)
theorem mnF : ∀ (xs : List Int) (x : Int), (xs.foldl (fun a y => if decide (y < a) = true then y else a) x) ∈ x :: xs ∧ ∀ y ∈ x :: xs, xs.foldl (fun a y => if decide (y < a) = true then y else a) x ≤ y
  | [], x => by simp
  | y :: ys, x => by
    have ih := mnF ys (if decide (y < x) = true then y else x)
    simp only [List.foldl_cons]
    generalize hr : ys.foldl (fun a y => if decide (y < a) = true then y else a) (if decide (y < x) = true then y else x) = r at ih
    obtain ⟨h1, h2⟩ := ih
    by_cases c : y < x
    · simp only [decide_eq_true c, if_true] at h1 h2
      refine ⟨List.mem_cons_of_mem _ h1, fun z hz => ?_⟩
      rcases List.mem_cons.mp hz with rfl | hz
      · have := h2 y List.mem_cons_self; omega
      · exact h2 z hz
    · simp only [decide_eq_false c, Bool.false_eq_true, if_false] at h1 h2
      refine ⟨?_, fun z hz => ?_⟩
      · rcases List.mem_cons.mp h1 with h | h
        · rw [h]; exact List.mem_cons_self
        · exact List.mem_cons_of_mem _ (List.mem_cons_of_mem _ h)
      · rcases List.mem_cons.mp hz with rfl | hz
        · exact h2 _ List.mem_cons_self
        · rcases List.mem_cons.mp hz with rfl | hz
          · have := h2 x List.mem_cons_self; omega
          · exact h2 z (List.mem_cons_of_mem _ hz)
theorem y_mxL {xs : List Int} (d : LV K rs Ho v xs) (z : Zs rs H Ho) (hg : 0 < xs.length) (k : Q (.int (mxD xs 0)) H) : rMax K [v] H Q := by
  obtain ⟨p, vs, rfl, d, s⟩ := LV.rd d z
  rw [dl_ints d] at s
  refine ⟨p, xs, rfl, s, hg, fun m hm hy => ?_⟩
  cases xs with
  | nil => simp at hg
  | cons x xs =>
    have q := mxF xs x
    have e : mxD (x :: xs) 0 = m := Int.le_antisymm (hy _ q.1) (q.2 _ hm)
    rw [← e]; exact k
theorem y_mnL {xs : List Int} (d : LV K rs Ho v xs) (z : Zs rs H Ho) (hg : 0 < xs.length) (k : Q (.int (mnD xs 0)) H) : rMin K [v] H Q := by
  obtain ⟨p, vs, rfl, d, s⟩ := LV.rd d z
  rw [dl_ints d] at s
  refine ⟨p, xs, rfl, s, hg, fun m hm hy => ?_⟩
  cases xs with
  | nil => simp at hg
  | cons x xs =>
    have q := mnF xs x
    have e : mnD (x :: xs) 0 = m := Int.le_antisymm (q.2 _ hm) (hy _ q.1)
    rw [← e]; exact k
end
end Z

/-! # sorted lists of tuples of ints, any number of them -/
namespace Z
open PySem PySem.Spec PyProof.Rows L2
theorem DL.item {α : Type} [Py α] {K : PySem.W.Frag} {vs : List V} {xs : List α} {i : Nat} {v : V} {H : Hp} (h : DL K H vs xs) (e : vs[i]? = some v) : ∃ x, xs[i]? = some x ∧ D K H v x := by
  have hi : i < xs.length := by rw [← h.len]; exact (List.getElem?_eq_some_iff.mp e).1
  obtain ⟨w, ew, dw⟩ := h.get (List.getElem?_eq_getElem hi)
  rw [e] at ew
  cases ew
  exact ⟨_, List.getElem?_eq_getElem hi, dw⟩
def lexL : List Int → List Int → Bool
  | [], [] => false
  | [], _ :: _ => true
  | _ :: _, [] => false
  | x :: xs, y :: ys => if x = y then lexL xs ys else decide (x < y)
theorem lexL_asym : ∀ a b : List Int, lexL a b = true → lexL b a = false
  | [], [], h => nomatch h
  | [], _ :: _, _ => rfl
  | _ :: _, [], h => nomatch h
  | x :: xs, y :: ys, h => by
    have h : (if x = y then lexL xs ys else decide (x < y)) = true := h
    show (if y = x then lexL ys xs else decide (y < x)) = false
    by_cases e : x = y
    · rw [if_pos e] at h
      rw [if_pos e.symm]
      exact lexL_asym xs ys h
    · rw [if_neg e] at h
      rw [if_neg (fun q => e q.symm)]
      have := of_decide_eq_true h
      exact decide_eq_false (by omega)
theorem lexL_tr : ∀ a b c : List Int, lexL b a = false → lexL c b = false → lexL c a = false
  | [], b, c, _, h2 => by
    cases c with
    | nil => rfl
    | cons z zs => rfl
  | x :: xs, [], c, h1, _ => nomatch h1
  | x :: xs, y :: ys, [], _, h2 => nomatch h2
  | x :: xs, y :: ys, z :: zs, h1, h2 => by
    have h1 : (if y = x then lexL ys xs else decide (y < x)) = false := h1
    have h2 : (if z = y then lexL zs ys else decide (z < y)) = false := h2
    show (if z = x then lexL zs xs else decide (z < x)) = false
    by_cases e1 : y = x
    · subst e1
      rw [if_pos rfl] at h1
      by_cases e2 : z = y
      · rw [if_pos e2] at h2 ⊢
        exact lexL_tr xs ys zs h1 h2
      · rw [if_neg e2] at h2 ⊢
        exact h2
    · rw [if_neg e1] at h1
      have q1 := of_decide_eq_false h1
      by_cases e2 : z = y
      · subst e2
        rw [if_neg e1]; exact h1
      · rw [if_neg e2] at h2
        have q2 := of_decide_eq_false h2
        rw [if_neg (by omega)]
        exact decide_eq_false (by omega)
theorem lexL_tot : ∀ a b : List Int, lexL a b = false → lexL b a = false → a = b
  | [], [], _, _ => rfl
  | [], _ :: _, h, _ => nomatch h
  | _ :: _, [], _, h => nomatch h
  | x :: xs, y :: ys, h1, h2 => by
    have h1 : (if x = y then lexL xs ys else decide (x < y)) = false := h1
    have h2 : (if y = x then lexL ys xs else decide (y < x)) = false := h2
    by_cases e : x = y
    · subst e
      rw [if_pos rfl] at h1 h2
      rw [lexL_tot xs ys h1 h2]
    · rw [if_neg e] at h1
      rw [if_neg (fun q => e q.symm)] at h2
      have := of_decide_eq_false h1
      have := of_decide_eq_false h2
      omega
section
variable {prog : Program} {w : World} {A : Around} {E : Value → Shared → Prop} {s : Shared}
theorem kat_lexL {b : Bool} {ps qs : List Value} {is js : List Int} (n : Nat) (hp : IntsAre ps is) (hq : IntsAre qs js) (he : is.length = js.length) : PySem.W.KatLex prog w A b false (fun r t => t = s ∧ r = lexL is js) (ps.zip qs) n s := by
  induction hp generalizing qs js n with
  | nil =>
    cases hq with
    | nil => exact PySem.W.kat_nil ⟨rfl, rfl⟩
    | cons q u hq => simp at he
  | @cons i t ps is hp ih =>
    cases hq with
    | nil => simp at he
    | @cons j u qs js hq =>
      show PySem.W.KatLex prog w A b false _ ((Value.int i t, Value.int j u) :: ps.zip qs) n s
      refine PySem.W.kat_cons (wpAny_eqBool_int ?_)
      have el : lexL (i :: is) (j :: js) = if i = j then lexL is js else decide (i < j) := rfl
      by_cases e : i = j
      · subst e
        rw [if_pos rfl] at el
        rw [beq_self_eq_true, el]
        exact PySem.W.kat_yes (ih (n + 1) hq (by simpa using he))
      · rw [if_neg e] at el
        rw [show (i == j) = false from beq_eq_false_iff_ne.mpr e, el]
        exact PySem.W.kat_no (TS.oneLt_ints _ ⟨rfl, rfl⟩)
theorem tups_cmp {us : List Value} {k : Value → List Int} {d : Nat} (hp : ∀ v ∈ us, TS.TupInts s.heap v (k v) ∧ (k v).length = d) : SrtO.Cmp prog w A s (tuples' true) (fun p => p.1 ∈ us) (SrtO.lt2 fun v u => lexL (k v) (k u)) := by
  intro p q h1 h2
  obtain ⟨⟨a, xs, ea, ⟨o, ho, _, n, hd⟩, ia⟩, la⟩ := hp _ h1
  obtain ⟨⟨b, ys, eb, ⟨u, hu, _, m, hm⟩, ib⟩, lb⟩ := hp _ h2
  show wpAny (model prog w) A (keyLt' (tuples' true) p.1 q.1) (fun r t => t = s ∧ r = lexL (k p.1) (k q.1)) (fun _ _ => False) s
  have sz : xs.size = ys.size := by
    have q1 := ia.length
    have q2 := ib.length
    rw [Array.length_toList] at q1 q2
    omega
  generalize k p.1 = kp at ia la ⊢
  generalize k q.1 = kq at ib lb ⊢
  rw [ea, eb]
  refine PySem.W.kat_lt ho hd hu hm ?_
  rw [show decide (xs.size < ys.size) = false from decide_eq_false (by omega)]
  exact kat_lexL 0 ia ib (by omega)
theorem tups_firsts {h : Heap} {k : Value → List Int} {d : Nat} (h1 : 1 ≤ d) : ∀ us : List Value, (∀ v ∈ us, TS.TupInts h v (k v) ∧ (k v).length = d) → ∃ fs, PySem.W.KatTups h us fs ∧ fs.length = us.length ∧ ∀ f ∈ fs, ∃ i t, f = Value.int i t
  | [], _ => ⟨[], .nil, rfl, fun _ m => nomatch m⟩
  | v :: us, x => by
    obtain ⟨fs, kt, hl, hi⟩ := tups_firsts h1 us fun u hu => x u (List.mem_cons_of_mem _ hu)
    obtain ⟨⟨a, xs, ea, ⟨o, ho, hc, n, hdt⟩, ia⟩, la⟩ := x v List.mem_cons_self
    obtain ⟨ys⟩ := xs
    cases ys with
    | nil =>
      have l := ia.length
      rw [la] at l
      have l : 0 = d := l
      omega
    | cons y ys =>
      obtain ⟨m, t, hy⟩ := ia.all y List.mem_cons_self
      subst ea
      refine ⟨y :: fs, .cons ho hc hdt rfl kt, by simp [hl], fun f hf => ?_⟩
      rcases List.mem_cons.mp hf with rfl | hf
      · exact ⟨m, t, hy⟩
      · exact hi f hf
theorem tups_sortable {a : Addr} {us : List Value} {k : Value → List Int} {d : Nat} (h1 : 1 ≤ d) (h0 : 0 < us.length) (hp : ∀ v ∈ us, TS.TupInts s.heap v (k v) ∧ (k v).length = d) (ha : ∀ o, s.heap.get? a = some o → o.cls ≠ .type "tuple") :
    SrtO.SortableO prog w A s a us fun v u => lexL (k v) (k u) := by
  intro h' keep
  have hp' : ∀ v ∈ us, TS.TupInts h' v (k v) ∧ (k v).length = d := fun v m => ⟨(hp v m).1.keeps fun b o e c => keep b o (fun z => by subst z; exact ha o e c) e, (hp v m).2⟩
  obtain ⟨fs, q1, q2, q3⟩ := tups_firsts h1 us hp'
  refine ⟨tuples' true, fun Q E hq => ?_, tups_cmp hp'⟩
  refine PySem.W.kat_kind (T := .type "int") q1 (by omega) (fun f m => ?_) (by rfl) ?_
  · obtain ⟨x, t, rfl⟩ := q3 f m
    exact PySem.W.Looks.now
  · rw [show (Value.type "int" != Value.type "tuple") = true from by decide +kernel]
    exact hq
theorem swoL {α : Type} (k : α → List Int) : SrtO.Swo fun v u => lexL (k v) (k u) := ⟨fun x y => lexL_asym _ _, fun x y z => lexL_tr _ _ _⟩
end
/-- sorted(xs), xs a list of tuples of d ints -/
def rSortedL (K : PySem.W.Frag) (d : Nat) : List V → Hp → VK → Prop := fun vs H Q => ∃ (a : Addr) (xs : List V), vs = [V.ref a] ∧ SqL K H a xs ∧ (∀ x ∈ xs, ∃ ns, TupI K H x ns ∧ ns.length = d) ∧
  ∀ (ys : List V) (p : Addr), ys.Perm xs → ys.Pairwise (fun x y => ∀ n m, TupI K H x n → TupI K H y m → lexL m n = false) → H p = none → Q (.ref p) (upd H p (.lst ys))
theorem zsorted {X : Cx} {K : PySem.W.Frag} {d : Nat} (hK : X.K = K) (h1 : 1 ≤ d) : CallR X (.builtin "sorted") (rSortedL K d) := by
  subst hK
  intro pins s σ H vs us Q I r h
  obtain ⟨a, xs, rfl, hs, hx, q⟩ := h
  obtain ⟨its, rv, hl, hz⟩ := I.list hs
  rw [Vals.ref1 r]
  obtain ⟨e1, e2⟩ := bkV_refs rv fun x m => by
    obtain ⟨ns, ⟨t, e, _⟩, _⟩ := hx x m
    exact ⟨t, e⟩
  have raw : ∀ v ∈ its, TS.TupInts s.heap v (TS.intsOf s.heap v) ∧ (TS.intsOf s.heap v).length = d := by
    intro v hv
    obtain ⟨t, rfl⟩ := e2 v hv
    have hm : V.ref t ∈ xs := by rw [e1]; exact List.mem_map.mpr ⟨_, hv, rfl⟩
    obtain ⟨ns, ⟨t', e, ht⟩, hn⟩ := hx _ hm
    cases e
    have q1 := tupI_raw I ht
    rw [q1.ints]
    exact ⟨q1, hn⟩
  refine SrtO.sorted_ord (ltv := fun v u => lexL (TS.intsOf s.heap v) (TS.intsOf s.heap u)) (swoL _) hl.isList (by rw [← rv.length]; exact hz) (fun h2 h₁ b hb kk => ?_) fun out o1 o2 => ?_
  · refine tups_sortable (s := { s with heap := h₁ }) (k := TS.intsOf s.heap) h1 (by omega) (fun v hm => ⟨(raw v hm).1.keeps fun c o e _ => (kk c o e).2, (raw v hm).2⟩) fun o e => ?_
    have e' := e.symm.trans hb
    cases e'
    exact fun c => absurd (Value.type.inj c) (by decide)
  · have h3 : ∀ u ∈ out, ∃ b, u = Value.ref b := fun u hu => e2 u (o2.perm.mem_iff.mp hu)
    obtain ⟨n, hn⟩ := PyProof.Rows.sortedAll_at s.heap its out.toArray
    have hpm : (out.map bkV).Perm xs := by rw [e1]; exact o2.perm.map _
    refine ⟨.ref (s.heap.objs.size + 1), upd H (s.heap.objs.size + 1) (.lst (out.map bkV)), I.laid (t' := s.toks) (fun b o e => PyProof.Rows.sortedAll_old e) (Nat.le_succ _) ⟨?_, out, n, bkV_vals h3, hn⟩, rfl, q _ _ hpm ?_ (I.hok.fresh (Nat.le_succ _))⟩
    · rw [hpm.length_eq]; exact hz
    · rw [List.pairwise_map]
      refine List.Pairwise.imp (fun {u v} huv nn mm h4 h5 => ?_) o1
      obtain ⟨t1, g1, k1⟩ := h4
      obtain ⟨t2, g2, k2⟩ := h5
      have w1 := tupI_raw I k1
      have w2 := tupI_raw I k2
      rw [← bkV_ref g1] at w1
      rw [← bkV_ref g2] at w2
      rw [← w1.ints, ← w2.ints]
      exact huv
/-! ### by data -/
class Ktup (α : Type) [Py α] where
  key : α → List Int
  d : Nat
  pos : 1 ≤ d
  len : ∀ x, (key x).length = d
  py : ∀ x : α, toPy x = .tuple ((key x).map PyData.int)
  inj : ∀ x y, key x = key y → x = y
instance : Ktup (Int × Int) := ⟨fun x => [x.1, x.2], 2, by decide, fun _ => rfl, fun _ => rfl, fun x y h => by
  obtain ⟨a, b⟩ := x
  obtain ⟨c, d⟩ := y
  simpa using h⟩
instance : Ktup (P3 Int Int Int) := ⟨fun x => [x.a, x.b, x.c], 3, by decide, fun _ => rfl, fun _ => rfl, fun x y h => by
  obtain ⟨a, b, c⟩ := x
  obtain ⟨d, e, f⟩ := y
  simpa using h⟩
instance : Ktup (P4 Int Int Int Int) := ⟨fun x => [x.a, x.b, x.c, x.d], 4, by decide, fun _ => rfl, fun _ => rfl, fun x y h => by
  obtain ⟨a, b, c, d⟩ := x
  obtain ⟨e, f, g, i⟩ := y
  simpa using h⟩
section
variable {α : Type} [Py α] [Ktup α] {K : PySem.W.Frag} {H Ho : Hp}
def leK (x y : α) : Bool := !lexL (Ktup.key y) (Ktup.key x)
def srtK (xs : List α) : List α := xs.mergeSort leK
theorem leK_tr (x y z : α) (h1 : leK x y = true) (h2 : leK y z = true) : leK x z = true := by
  unfold leK at *
  simp only [Bool.not_eq_true'] at *
  exact lexL_tr _ _ _ h1 h2
theorem leK_tot (x y : α) : (leK x y || leK y x) = true := by
  unfold leK
  cases h : lexL (Ktup.key y) (Ktup.key x) with
  | false => rfl
  | true => rw [lexL_asym _ _ h]; rfl
theorem leK_anti (x y : α) (h1 : leK x y = true) (h2 : leK y x = true) : x = y := by
  unfold leK at *
  simp only [Bool.not_eq_true'] at *
  exact Ktup.inj _ _ (lexL_tot _ _ h2 h1)
theorem srt_uniq : ∀ {l m : List α}, l.Perm m → l.Pairwise (fun x y => leK x y = true) → m.Pairwise (fun x y => leK x y = true) → l = m
  | [], m, hp, _, _ => (List.Perm.nil_eq hp)
  | x :: l, [], hp, _, _ => absurd hp.length_eq (by simp)
  | x :: l, y :: m, hp, h1, h2 => by
    have e : x = y := by
      rcases List.mem_cons.mp (hp.mem_iff.mp (List.mem_cons_self (a := x) (l := l))) with e | hx
      · exact e
      rcases List.mem_cons.mp (hp.mem_iff.mpr (List.mem_cons_self (a := y) (l := m))) with e | hy
      · exact e.symm
      exact leK_anti x y ((List.pairwise_cons.mp h1).1 y hy) ((List.pairwise_cons.mp h2).1 x hx)
    subst e
    rw [srt_uniq hp.cons_inv (List.pairwise_cons.mp h1).2 (List.pairwise_cons.mp h2).2]
theorem srtK_perm (xs : List α) : (srtK xs).Perm xs := List.mergeSort_perm xs leK
theorem srtK_srt (xs : List α) : (srtK xs).Pairwise (fun x y => leK x y = true) := List.pairwise_mergeSort leK_tr leK_tot xs
theorem srtK_of {xs ys : List α} (h : ys.Perm xs) (hs : ys.Pairwise (fun x y => leK x y = true)) : ys = srtK xs := srt_uniq (h.trans (srtK_perm xs).symm) hs (srtK_srt xs)
theorem srtK_eq {xs ys : List α} (h : ys.Perm xs) : srtK ys = srtK xs := srtK_of ((srtK_perm ys).trans h) (srtK_srt ys)
theorem DL.perm {vs us : List V} (hp : us.Perm vs) : ∀ {xs : List α}, DL K H vs xs → ∃ ys, ys.Perm xs ∧ DL K H us ys := by
  induction hp with
  | nil => exact fun {xs} h => ⟨xs, List.Perm.refl _, h⟩
  | cons v _ ih =>
    intro xs h
    cases xs with
    | nil => cases h
    | cons x xs =>
      cases h with
      | cons h1 h2 =>
        obtain ⟨ys, p, q⟩ := ih h2
        exact ⟨x :: ys, p.cons x, .cons h1 q⟩
  | swap u v l =>
    intro xs h
    cases xs with
    | nil => cases h
    | cons x xs =>
      cases xs with
      | nil => cases h with | cons _ h2 => cases h2
      | cons y xs =>
        cases h with
        | cons h1 h2 =>
          cases h2 with
          | cons h2 h3 => exact ⟨y :: x :: xs, List.Perm.swap _ _ _, .cons h2 (.cons h1 h3)⟩
  | trans _ _ ih1 ih2 =>
    intro xs h
    obtain ⟨ys, p, q⟩ := ih2 h
    obtain ⟨zs, p2, q2⟩ := ih1 q
    exact ⟨zs, p2.trans p, q2⟩
theorem dints_all : ∀ {vs : List V} {is : List Int}, DqAll K H vs (is.map PyData.int) → vs = is.map V.int
  | vs, [], h => by cases h; rfl
  | vs, i :: is, h => by
    cases h with
    | cons h1 h2 =>
      cases h1
      rw [dints_all h2]; rfl
theorem tupI_of {v : V} {x : α} (h : D K H v x) : TupI K H v (Ktup.key x) := by
  have h : Dq K H v (toPy x) := h
  rw [Ktup.py] at h
  cases h with
  | tup hs ha =>
    rw [dints_all ha] at hs
    exact ⟨_, rfl, SqT.of hs⟩
theorem dl_pw {us : List V} : ∀ {ys : List α}, DL K H us ys → us.Pairwise (fun x y => ∀ n m, TupI K H x n → TupI K H y m → lexL m n = false) → ys.Pairwise (fun x y => leK x y = true) := by
  induction us with
  | nil =>
    intro ys h _
    cases ys with
    | nil => exact .nil
    | cons y ys => cases h
  | cons u us ih =>
    intro ys h hp
    cases ys with
    | nil => cases h
    | cons y ys =>
      cases h with
      | cons h1 h2 =>
        obtain ⟨p1, p2⟩ := List.pairwise_cons.mp hp
        refine List.pairwise_cons.mpr ⟨fun z hz => ?_, ih h2 p2⟩
        obtain ⟨i, hi⟩ := List.mem_iff_getElem?.mp hz
        obtain ⟨t, ht, dt⟩ := DL.get h2 hi
        have q := p1 t (List.mem_of_getElem? ht) _ _ (tupI_of h1) (tupI_of dt)
        unfold leK
        rw [q]; rfl
theorem y_sortK {rs : List (Addr × HO)} {v : V} {Q : VK} {xs : List α} (d1 : LV K rs Ho v xs) (z : Zs rs H Ho) (k : ∀ H' p ws, Zs ((p, .lst ws) :: rs) H' Ho → DL K Ho ws (srtK xs) → Q (.ref p) H') : rSortedL K (Ktup.d α) [v] H Q := by
  obtain ⟨p, vs, rfl, d, s⟩ := LV.rd d1 z
  have dH : DL K H vs xs := DL.mo d z.le
  refine ⟨p, vs, rfl, s, fun u hu => ?_, fun us q hp hpw hq => ?_⟩
  · obtain ⟨i, hi⟩ := List.mem_iff_getElem?.mp hu
    obtain ⟨y, hy, dy⟩ := DL.item dH hi
    exact ⟨_, tupI_of dy, Ktup.len y⟩
  · obtain ⟨ys, pe, dy⟩ := DL.perm hp d
    have dyH : DL K H us ys := DL.mo dy z.le
    have e : ys = srtK xs := srtK_of pe (dl_pw dyH hpw)
    subst e
    exact k _ q us (z.root hq) dy
end
section
variable {K : PySem.W.Frag} {rs : List (Addr × HO)} {H Ho : Hp} {α β γ δ : Type} [Py α] [Py β] [Py γ] [Py δ] {v u : V} {Q : VK}
theorem y_cat22 {a : α × β} {b : γ × δ} (d1 : D K Ho v a) (d2 : D K Ho u b) (z : Zs rs H Ho) (k : ∀ p H' Ho', Same Ho Ho' → Zs rs H' Ho' → D K Ho' (.ref p) (⟨a.1, a.2, b.1, b.2⟩ : P4 α β γ δ) → Q (.ref p) H') : rCatT K v u H Q := by
  cases d1 with
  | tup hs ha =>
    cases d2 with
    | tup ht hb =>
      cases ha with
      | cons a1 a2 =>
        cases a2 with
        | cons a2 a3 =>
          cases a3
          cases hb with
          | cons b1 b2 =>
            cases b2 with
            | cons b2 b3 =>
              cases b3
              refine ⟨_, _, _, _, rfl, rfl, SqT.of (z.le _ _ hs), SqT.of (z.le _ _ ht), by simp, by show 4 ≤ sizeLine; decide, fun e => (nomatch e), fun _ q hq => ?_⟩
              exact k _ _ _ (Same.new (z.free hq)) (z.alloc hq) (.tup upd_same (.cons (dp_mono (Same.new (z.free hq)) _ _ a1) (.cons (dp_mono (Same.new (z.free hq)) _ _ a2) (.cons (dp_mono (Same.new (z.free hq)) _ _ b1) (.cons (dp_mono (Same.new (z.free hq)) _ _ b2) .nil)))))
end
theorem zop_catT {X : Cx} {K : PySem.W.Frag} (hK : X.K = K) : OpR X (binaryOp .Add) (rCatT K) := hK ▸ op_catT
end Z

/-! # Y4: the machine's rules, the written part by its own letter; isinstance -/
namespace Z
open PySem PySem.Spec PyProof.Rows L2
section
variable {α : Type} [Py α]
/-! ### isinstance: the kind is known -/
class Kin (β : Type) [Py β] where
  ty : String
  ok : ∀ {K : PySem.W.Frag} {H : Hp} {v : V} {x : β}, D K H v x → TyX K H v (.type ty)
theorem tyx_list {K : PySem.W.Frag} {H : Hp} {p : Addr} {vs : List V} (h : SqL K H p vs) : TyX K H (.ref p) (.type "list") := by
  rcases h with (h | ⟨o, h⟩) | ⟨o, its, n, h, hc, _⟩
  · exact .base (.lst h)
  · exact .base (.frz h)
  · exact .kList h hc
theorem tyx_tup {K : PySem.W.Frag} {H : Hp} {p : Addr} {vs : List V} (h : SqT K H p vs) : TyX K H (.ref p) (.type "tuple") := by
  rcases h with (h | ⟨o, h⟩) | ⟨o, its, n, h, hc, _⟩
  · exact .base (.tup h)
  · exact .fTuple h
  · exact .kTuple h hc
theorem dp_list {K : PySem.W.Frag} {H : Hp} {v : V} {ds : List PyData} (h : Dq K H v (.list ds)) : TyX K H v (.type "list") := by
  cases h with
  | lst hs _ => exact tyx_list hs
theorem dp_tup {K : PySem.W.Frag} {H : Hp} {v : V} {ds : List PyData} (h : Dq K H v (.tuple ds)) : TyX K H v (.type "tuple") := by
  cases h with
  | tup hs _ => exact tyx_tup (SqT.of hs)
instance : Kin Int := ⟨"int", fun d => by rw [d_int d]; exact .base (.int _)⟩
instance : Kin Bool := ⟨"bool", fun d => by rw [d_bool d]; exact .base (.bl _)⟩
instance : Kin Str := ⟨"str", fun d => by rw [d_str d]; exact .base (.str _)⟩
instance : Kin Unit := ⟨"NoneType", fun d => by cases d; exact .base .non⟩
instance : Kin (List α) := ⟨"list", fun d => dp_list d⟩
instance : Kin (Tp α) := ⟨"tuple", fun d => dp_tup d⟩
instance {β γ : Type} [Py β] [Py γ] : Kin (β × γ) := ⟨"tuple", fun d => dp_tup d⟩
instance {β γ δ : Type} [Py β] [Py γ] [Py δ] : Kin (P3 β γ δ) := ⟨"tuple", fun d => dp_tup d⟩
instance {β γ δ ε : Type} [Py β] [Py γ] [Py δ] [Py ε] : Kin (P4 β γ δ ε) := ⟨"tuple", fun d => dp_tup d⟩
section
variable {K : PySem.W.Frag} {H : Hp} {v : V} {Q : VK} {σ : L2.St}
theorem y_isi {β : Type} [Py β] [Kin β] {x : β} {T : String} {b : Bool} (d : D K H v x) (hb : kitB (Kin.ty β) T = some b) (k : Q (.bl b) H) : rIsi K [v, .ty T] H Q :=
  ⟨v, .ty T, _, .type T, b, rfl, .ty T, Kin.ok d, kit_ty hb, k⟩
theorem y_isiO {β : Type} [Py β] [Kin β] {x : Option β} {T : String} {b b' : Bool} (d : D K H v x) (hb : kitB (Kin.ty β) T = some b) (hb' : kitB "NoneType" T = some b') (k : Q (.bl (if x.isSome then b else b')) H) : rIsi K [v, .ty T] H Q := by
  cases x with
  | none =>
    cases d
    exact ⟨_, .ty T, _, .type T, b', rfl, .ty T, .base .non, kit_ty hb', k⟩
  | some x => exact ⟨v, .ty T, _, .type T, b, rfl, .ty T, Kin.ok (x := x) d, kit_ty hb, k⟩
end
end
section
variable {X : Cx} {K : PySem.W.Frag}
theorem zix_list (hK : X.K = K) : IxR X (rIxL K) := hK ▸ ix_list
theorem zix_tup (hK : X.K = K) : IxR X (rIxT K) := hK ▸ ix_tup
theorem zget_list (hK : X.K = K) : PGet X (rIxL K) := hK ▸ get_list
theorem zsl_list (hK : X.K = K) : SlR X (rSlL K) := hK ▸ sl_list
theorem zop_catS (hK : X.K = K) : OpR X (binaryOp .Add) (rCatS K) := hK ▸ op_catS
theorem zop_eqD (hK : X.K = K) (hu : X.A.units + 64 < cLine) : OpR X (compareOp .Eq) (rEqD K) := hK ▸ op_eqD hu
theorem zop_neD (hK : X.K = K) (hu : X.A.units + 64 < cLine) : OpR X (compareOp .NotEq) (rNeD K) := hK ▸ op_neD hu
theorem zlen (hK : X.K = K) : CallR X (.builtin "len") (rLenZ K) := hK ▸ call_len_seq
theorem zlist (hK : X.K = K) : CallR X (.type "list") (rListZ K) := hK ▸ call_list_of
theorem zisi (hK : X.K = K) : CallR X (.builtin "isinstance") (rIsi K) := hK ▸ call_isi
theorem zall (hK : X.K = K) (hc : X.calm = true) : CallR X (.builtin "all") (rAll K) := hK ▸ cr_all hc
theorem zany (hK : X.K = K) (hc : X.calm = true) : CallR X (.builtin "any") (rAny K) := hK ▸ cr_any hc
theorem zpi_list {tg l : Expr} {tl : TE} (hK : X.K = K) (hl : PE X l tl) : PI X tg l (iList K tl) := hK ▸ pi_list hl
theorem zpi_tup {tg l : Expr} {tl : TE} (hK : X.K = K) (hl : PE X l tl) : PI X tg l (iTup K tl) := hK ▸ pi_tup hl
theorem zsum (hK : X.K = K) (hc : X.calm = true) : CallR X (.builtin "sum") (rSum K) := hK ▸ cr_sum hc
theorem zsortI (hK : X.K = K) : CallR X (.builtin "sorted") (rSortedI K) := hK ▸ cr_sortedI
theorem zop_inD (hK : X.K = K) (hu : X.A.units + 65 < cLine) : OpR X (compareOp .In) (rInD K) := hK ▸ op_inD hu
theorem zop_notInD (hK : X.K = K) (hu : X.A.units + 65 < cLine) : OpR X (compareOp .NotIn) (rNotInD K) := hK ▸ op_notInD hu
end
theorem zpg_tup {X : Cx} {K : PySem.W.Frag} {es : List Expr} {k : Nat} {t : TGs} {n : Nat} {pos : Pos} (hK : X.K = K) (hc : X.calm = true) (h : PGs X es t)
    (hn : (assignEach es X.env).length = n := by rfl) (hst : (assignEach es X.env).findIdx? (·.1) = none := by rfl) : PG X (.Tuple es k pos) (gTup K n t) := hK ▸ pg_tup hc h hn hst
/-- a def that stands at f under the name x -/
structure Cal (P : Program) (w : World) (K : PySem.W.Frag) (mg : Str → Option Value) (base : Heap) (CX : CXT) (x : Str) (ps : List Str) (k : Nat) (sp : Sp) (f : Addr) (fd : FuncData) : Prop where
  ok : FnOk P w K mg base CX k f fd ps sp
  g : mg x = some (.ref f)
  kp : PySem.W.keepIn K (.ref f) = true
  b : Binds K fd ps []
section
variable {X : Cx} {K : PySem.W.Frag} {x n m : Str} {c : Value} {C : Addr} {i : Nat} {body suite : List Stmt} {b₀ : Stmt} {p p2 np pos pos' : Pos} {j : Nat} {tb : WX → TS} {ts : Addr → Value → Option Addr → TS} {W Wout : WX} {bmB : List Value} {B newId initId : String}
theorem zps_try_as (hK : X.K = K) (hs : X.stack = X.env :: X.outer) (hf : X.env.frame = some X.env.locals) (hN : X.N.Nodup) (hi : X.N[i]? = some n) (hln : X.env.kindOf n = some .local) (hc : Names X x c) (tk : Takes X Wout)
    (hb : ∀ (W : WX) (pn : List (Addr × Obj)) (xe : Value → Shared → Prop), Takes (X.tr pn xe) W → PassesOwn (model X.prog X.w) X.A X.env xe → PSs (X.tr pn xe) body (tb W))
    (hsu : ∀ (a : Addr) (oe : Obj) (cls : Value) (d : Option Addr) (pn : List (Addr × Obj)), Zc cls d oe → (∃ vs, oe.data = .fields vs) → PSs (X.suite a ((a, oe) :: pn)) (b₀ :: suite) (ts a cls d)) :
    PS X (.Try body [.ExceptHandler (some (.Name x np)) (some n) (b₀ :: suite) pos'] [] [] pos) (tTryAs K c i tb ts Wout) := hK ▸ ps_try_as hs hf hN hi hln hc tk hb hsu
theorem zps_try_only (hK : X.K = K) (hs : X.stack = X.env :: X.outer) (hf : X.env.frame = some X.env.locals) (hc : Names X x c) (tk : Takes X Wout)
    (hb : ∀ (W : WX) (pn : List (Addr × Obj)) (xe : Value → Shared → Prop), Takes (X.tr pn xe) W → PassesOwn (model X.prog X.w) X.A X.env xe → PSs (X.tr pn xe) body (tb W))
    (hsu : ∀ (a : Addr) (oe : Obj) (cls : Value) (d : Option Addr) (pn : List (Addr × Obj)), Zc cls d oe → (∃ vs, oe.data = .fields vs) → PSs (X.suite a ((a, oe) :: pn)) (b₀ :: suite) (ts a cls d)) :
    PS X (.Try body [.ExceptHandler (some (.Name x np)) none (b₀ :: suite) pos'] [] [] pos) (tTryOnly K c tb ts Wout) := hK ▸ ps_try_only hs hf hc tk hb hsu
theorem zps_raise (hK : X.K = K) (hc : X.calm = true) (tk : Takes X W) (q : PySem.W.excIn K C [.type "ValueError", .type "Exception", .type "BaseException", .type "object"] "ValueError.__new__" = true) (gC : X.mg x = some (.ref C)) (kC : PySem.W.keepIn K (.ref C) = true)
    (h1 : PySem.W.subIn K (.ref C) (.type "BaseException") = some true) (h2 : PySem.W.typeIn K (.ref C) = some (.type "type")) (hg : Gl X x) (hdb : (x == ("__debug__" : Str)) = false := by decide) :
    PS X (.Raise (some (.Call (.Name x p) [.Constant (.str m) j p2] [] pos)) none pos') (tRaise C W) := by
  subst hK
  exact ps_raise hc tk (pmk_own PySem.F.excBase_ValueError q gC kC (raises_own h1 h2) hg hdb)
/-- isinstance of the error that the suite holds -/
def rIsX (K : PySem.W.Frag) (a : Addr) (cls : Value) (d : Option Addr) : List V → Hp → VK → Prop := fun xs H Q => ∃ (D : Addr) (c : V) (cv : Value) (b : Bool), cls = .ref D ∧ d = none ∧ xs = [.ref a, c] ∧ ClsV c cv ∧ ExcC K D ∧ PySem.W.kitOne K (.ref D) cv = some b ∧ Q (.bl b) H
def rIsXT (K : PySem.W.Frag) (a : Addr) (cls : Value) (d : Option Addr) : List V → Hp → VK → Prop := fun xs H Q => ∃ (D : Addr) (tp : Addr) (cs : List V) (us : List Value) (b : Bool), cls = .ref D ∧ d = none ∧ xs = [.ref a, .ref tp] ∧ H tp = some (.tup cs) ∧ Paired ClsV cs us ∧ ExcC K D ∧ PySem.W.kitAny K (.ref D) us = some b ∧ Q (.bl b) H
theorem inst_at {X : Cx} {pins : List (Addr × Obj)} {σ : L2.St} {H : Hp} {s : Shared} {a D : Addr} {oe : Obj} {pn : List (Addr × Obj)} (hz : Zc (.ref D) none oe) (hf : ∃ vs, oe.data = .fields vs) (I : Inv (X.suite a ((a, oe) :: pn)) pins σ H s) : PySem.W.InstAt s.heap a oe D none := by
  have hget := (I.pin (a, oe) (List.mem_append.mpr (.inl List.mem_cons_self))).1
  obtain ⟨vs, hv⟩ := hf
  obtain ⟨oc, od, oda, osl⟩ := oe
  obtain ⟨h1, h2⟩ := hz
  dsimp only at h1 h2 hv
  subst h1 h2 hv
  exact ⟨hget, rfl, rfl, trivial⟩
theorem zisX {a : Addr} {cls : Value} {d : Option Addr} {oe : Obj} {pn : List (Addr × Obj)} (hK : X.K = K) (hz : Zc cls d oe) (hf : ∃ vs, oe.data = .fields vs) : CallR (X.suite a ((a, oe) :: pn)) (.builtin "isinstance") (rIsX K a cls d) := by
  subst hK
  intro pins s σ H xs us Q I r h
  obtain ⟨D, c, cv, b, rfl, rfl, rfl, hcv, C, e, q⟩ := h
  obtain ⟨u1, u2, rfl, r1, r2⟩ := vals2 r
  cases (show u1 = Value.ref a from r1)
  have ec := hcv.eq r2
  subst ec
  exact PySem.W.kia_one (PySem.W.handS_kitx_exc C.hg C.hk C.hs C.hd C.ha C.hn C.ht C.hm) I.kIn (inst_at hz hf I) e (fun z => nomatch z) fun tk => ⟨.bl b, H, I.tok tk, rfl, q⟩
theorem zisXT {a : Addr} {cls : Value} {d : Option Addr} {oe : Obj} {pn : List (Addr × Obj)} (hK : X.K = K) (hz : Zc cls d oe) (hf : ∃ vs, oe.data = .fields vs) : CallR (X.suite a ((a, oe) :: pn)) (.builtin "isinstance") (rIsXT K a cls d) := by
  subst hK
  intro pins s σ H xs us Q I r h
  obtain ⟨D, tp, cs, ws, b, rfl, rfl, rfl, hT, k, C, e, q⟩ := h
  obtain ⟨u1, u2, rfl, r1, r2⟩ := vals2 r
  cases (show u1 = Value.ref a from r1)
  cases (show u2 = Value.ref tp from r2)
  obtain ⟨_, its, rv, o, h1, h2, n, h3⟩ := (show ObjOk X.prog X.w H s.heap tp (.tup cs) from I.hok tp _ hT)
  have e3 := ClsV.all k rv
  subst e3
  obtain ⟨oc, od, dt, sl⟩ := o
  simp only at h2 h3
  subst h2 h3
  exact PySem.W.kia_tup (PySem.W.handS_kitx_exc C.hg C.hk C.hs C.hd C.ha C.hn C.ht C.hm) I.kIn (inst_at hz hf I) h1 e (fun z => nomatch z) fun tk => ⟨.bl b, H, I.tok tk, rfl, q⟩
end
section
variable {σ : L2.St} {H : Hp} {K : PySem.W.Frag}
inductive TCs : TA → List V → Prop where
  | nil : TCs tNil []
  | cons {v : V} {vs : List V} {t : TA} (h : TCs t vs) : TCs (tCons (tC v) t) (v :: vs)
theorem TCs.run {t : TA} {vs : List V} (h : TCs t vs) : ∀ {σ : L2.St} {H : Hp} {Q : List V → Hp → Prop}, Q vs H → t σ H Q := by
  induction h with
  | nil => exact fun q => q
  | cons h ih => exact fun q => ih q
theorem y_isX {cl : Nat → Addr} {n : Nat} {a : Addr} {Q : VK} {v : V} {cv : Value} {b : Bool} (xc : ExcC K (cl n)) (k : ClsV v cv) (e : PySem.W.kitOne K (.ref (cl n)) cv = some b) (q : Q (.bl b) H) : rIsX K a (.ref (cl n)) none [.ref a, v] H Q :=
  ⟨cl n, v, cv, b, rfl, rfl, rfl, k, xc, e, q⟩
theorem y_isXT {cl : Nat → Addr} {n : Nat} {a : Addr} {Q : VK} {rs : List (Addr × HO)} {Ho : Hp} {vs : List V} {us : List Value} {b : Bool} {ts : TA} (z : Zs rs H Ho) (xc : ExcC K (cl n)) (ht : TCs ts vs) (k : Paired ClsV vs us) (e : PySem.W.kitAny K (.ref (cl n)) us = some b) (q : ∀ H' Ho', Same Ho Ho' → Zs rs H' Ho' → Q (.bl b) H') (hl : vs.length ≤ sizeLine := by decide) :
    tTup ts σ H fun x H1 => rIsXT K a (.ref (cl n)) none [.ref a, x] H1 Q := by
  refine ht.run ⟨hl, fun p hp => ?_⟩
  have e3 : Same Ho (upd Ho p (.tup vs)) := Same.new (z.free hp)
  exact ⟨cl n, p, vs, us, b, rfl, rfl, rfl, upd_same, k, xc, e, q _ _ e3 (z.alloc hp)⟩
theorem kitAny_or {t c : Value} {cs : List Value} {b r : Bool} (h : PySem.W.kitOne K t c = some b) (hr : PySem.W.kitAny K t cs = some r) : PySem.W.kitAny K t (c :: cs) = some (b || r) := by
  refine kitAny_cons h (fun e => ?_) (fun e => by rw [e]; rfl)
  rw [e]; exact hr
end

section
variable {X : Cx} {K : PySem.W.Frag} {tg e e2 : Expr} {ta : TA} {p pos tpos : Pos} {elts : List Expr} {kk : Nat}
theorem zpi_zip (hK : X.K = K) (hg : Gl X "zip") (hm : X.mg "zip" = none) (ha : PA X [e, e2] ta)
    (hs : starEach [e, e2] X.env = (false, eval e X.env) :: starEach [e2] X.env := by rfl) (hpl : (backTo pos (starEach [e2] X.env)).any (·.1) = false := by rfl) :
    PI X (.Tuple elts kk tpos) (.Call (.Name "zip" p) [e, e2] [] pos) (iZip K ta) := hK ▸ pi_zip hg hm ha hs hpl
theorem zpi_enum (hK : X.K = K) (hg : Gl X "enumerate") (hm : X.mg "enumerate" = none) (ha : PA X [e] ta) (hs : starEach [e] X.env = [(false, eval e X.env)] := by rfl) :
    PI X (.Tuple elts kk tpos) (.Call (.Name "enumerate" p) [e] [] pos) (iEnum K ta) := hK ▸ pi_enum hg hm ha hs
end
theorem zpi_rev {X : Cx} {K : PySem.W.Frag} {tg e : Expr} {ta : TA} {p pos : Pos} (hK : X.K = K) (hg : Gl X "reversed") (hm : X.mg "reversed" = none) (ha : PA X [e] ta) (hs : starEach [e] X.env = [(false, eval e X.env)] := by rfl) : PI X tg (.Call (.Name "reversed" p) [e] [] pos) (iRev K ta) := hK ▸ pi_reversed hg hm ha hs
end Z

/-! # Yg: what is one's own, by groups of roots -/
namespace Z
open PySem PySem.Spec PyProof.Rows L2
abbrev Grp := List (Addr × HO)
/-- groups, in a row, ahead of the rest -/
def rowG (gs : List Grp) (amb : Grp) : Grp := gs.foldr (· ++ ·) amb
theorem rowG_eq (gs : List Grp) (amb : Grp) : rowG gs amb = gs.flatten ++ amb := by
  induction gs with
  | nil => rfl
  | cons g gs ih => show g ++ rowG gs amb = _; rw [ih, List.flatten_cons, List.append_assoc]
theorem mg0 {g R : Grp} : ∀ r ∈ g, r ∈ g ++ R := fun _ h => List.mem_append_left _ h
theorem mgS {g h R : Grp} (k : ∀ r ∈ g, r ∈ R) : ∀ r ∈ g, r ∈ h ++ R := fun r m => List.mem_append_right _ (k r m)
theorem room65 {k : Nat} {A : Around} (r : Room k A) : A.units + 65 < cLine := by have := r.un; omega
theorem mgN {rs : Grp} : ∀ r ∈ ([] : Grp), r ∈ rs := fun _ m => nomatch m
theorem mgE {g : Grp} : ∀ r ∈ g, r ∈ g := fun _ h => h
section
variable {K : PySem.W.Frag} {H Ho H' Ho' : Hp} {rs : Grp}
theorem sel_nodup {α β : Type} (f : α → β) (l : List (List α)) (is : List Nat) (hn : is.Nodup) (h : (l.flatten.map f).Nodup) : ((is.filterMap fun i => l[i]?).flatten.map f).Nodup := by
  rw [List.map_flatten] at h ⊢
  unfold List.Nodup at h ⊢
  rw [List.pairwise_flatten] at h ⊢
  have sub : ∀ g ∈ (is.filterMap fun i => l[i]?), g ∈ l := fun r hr => by
    obtain ⟨i, _, e⟩ := List.mem_filterMap.mp hr
    exact List.mem_of_getElem? e
  refine ⟨fun g hg => ?_, ?_⟩
  · obtain ⟨r, hr, rfl⟩ := List.mem_map.mp hg
    exact h.1 _ (List.mem_map.mpr ⟨r, sub r hr, rfl⟩)
  · rw [List.pairwise_map]
    have h2 := h.2
    rw [List.pairwise_map] at h2
    refine List.Pairwise.filterMap _ (fun i j hij a ha b hb => ?_) hn
    rw [List.pairwise_iff_getElem] at h2
    have hl1 := (List.getElem?_eq_some_iff.mp ha)
    have hl2 := (List.getElem?_eq_some_iff.mp hb)
    obtain ⟨hi, rfl⟩ := hl1
    obtain ⟨hj, rfl⟩ := hl2
    rcases Nat.lt_or_gt_of_ne hij with c | c
    · exact h2 i j hi hj c
    · exact fun x hx y hy e => h2 j i hj hi c y hy x hx e.symm
/-- some of the groups, in any order -/
theorem Zs.go {rs rs' : Grp} (gs : List Grp) (amb : Grp) (is : List Nat) (z : Zs rs H Ho) (h1 : rs = rowG gs amb := by rfl) (h2 : rs' = rowG (is.filterMap fun i => gs[i]?) amb := by rfl) (hn : is.Nodup := by decide) : Zs rs' H Ho := by
  subst h1 h2
  rw [rowG_eq] at z ⊢
  have sub : ∀ r ∈ (is.filterMap fun i => gs[i]?).flatten, r ∈ gs.flatten := fun r hr => by
    obtain ⟨g, hg, hr⟩ := List.mem_flatten.mp hr
    obtain ⟨i, _, e⟩ := List.mem_filterMap.mp hg
    exact List.mem_flatten.mpr ⟨g, List.mem_of_getElem? e, hr⟩
  have sub2 : ∀ r ∈ (is.filterMap fun i => gs[i]?).flatten ++ amb, r ∈ gs.flatten ++ amb := fun r hr => by
    rcases List.mem_append.mp hr with h | h
    · exact List.mem_append_left _ (sub r h)
    · exact List.mem_append_right _ h
  refine ⟨z.le, fun r hr => z.rt r (sub2 r hr), ?_, fun r hr => z.nt r (sub2 r hr)⟩
  · have nd := z.nd
    rw [List.map_append, List.nodup_append] at nd ⊢
    refine ⟨sel_nodup _ gs is hn nd.1, nd.2.1, fun a ha b hb e => ?_⟩
    obtain ⟨r, hr, rfl⟩ := List.mem_map.mp ha
    exact nd.2.2 _ (List.mem_map.mpr ⟨r, sub r hr, rfl⟩) b hb e
end
/-! ### ways, without data -/
section
variable {α β γ : Type} {Φ : γ → Prop}
theorem run_gd {p : Prop} {c : W γ} (h : (W.guard p c).run Φ) : p ∧ c.run Φ := h
theorem run_opt' {o : Option β} {f : β → W γ} (h : (W.bind (W.opt o) f).run Φ) : ∃ a, o = some a ∧ (f a).run Φ := h
theorem run_itT {A B : W γ} {b : Bool} (h : (W.ite b A B).run Φ) (e : b = true) : A.run Φ := h.1 e
theorem run_itF {A B : W γ} {b : Bool} (h : (W.ite b A B).run Φ) (e : b = false) : B.run Φ := h.2 e
theorem run_bret {e : β} {f : β → W γ} (h : (W.bind (W.ret e) f).run Φ) : (f e).run Φ := h
theorem w_two {b : Bool} {X Y : Prop} (h1 : b = true → X) (h2 : b = false → Y) : if b = true then X else Y := by
  cases b with
  | true => exact iteT (h1 rfl)
  | false => exact iteF (h2 rfl)
theorem exm_mono {c : W (Ex β)} {N N' : β → Prop} {X X' : Er → Prop} (h : c.run (ExP N X)) (h1 : ∀ a, N a → N' a) (h2 : ∀ e, X e → X' e) : c.run (ExP N' X') :=
  c.mono _ _ (fun r hr => by cases r with | ok a => exact h1 a hr | er e => exact h2 e hr) h
theorem run_mono' {c : W β} {N N' : β → Prop} (h : c.run N) (k : ∀ a, N a → N' a) : c.run N' := c.mono _ _ k h
theorem run_mono3 {c : W β} {f : β → W γ} {N : β → Prop} (hw : (W.bind c f).run Φ) (k : ∀ a, (f a).run Φ → N a) : c.run N := c.mono _ _ (fun r h => k r h) hw
theorem run_mono2 {c : W (α × β)} {f : α → β → W γ} {N : α × β → Prop} (hw : (W.bind2 c f).run Φ) (k : ∀ a b, (f a b).run Φ → N (a, b)) : c.run N := c.mono _ _ (fun r h => k r.1 r.2 h) hw
theorem run_b {c : W β} {f : β → W γ} (h : (W.bind c f).run Φ) : c.run fun a => (f a).run Φ := h
theorem run_b2 {c : W (α × β)} {f : α → β → W γ} (h : (W.bind2 c f).run Φ) : c.run fun r => (f r.1 r.2).run Φ := h
end
/-! ### lists of data of one's own -/
section
variable {K : PySem.W.Frag} {H Ho H' Ho' : Hp} {α β γ : Type} [Py α] [Py β] {Φ : γ → Prop} {R : Grp} {v w : V} {Q : VK}
def OL (K : PySem.W.Frag) (Ho : Hp) (v : V) (xs : List α) (g : Grp) : Prop := ∃ p vs, v = .ref p ∧ DL K Ho vs xs ∧ g = [(p, .lst vs)]
theorem OL.mo {v : V} {xs : List α} {g : Grp} (h : OL K Ho v xs g) (e : Same Ho Ho') : OL K Ho' v xs g := by
  obtain ⟨p, vs, rfl, d, rfl⟩ := h
  exact ⟨p, vs, rfl, DL.mo d e, rfl⟩
theorem OL.mk {p : Addr} {ws : List V} {xs : List α} (d : DL K Ho ws xs) : OL K Ho (.ref p) xs [(p, .lst ws)] := ⟨p, ws, rfl, d, rfl⟩
theorem OL.lv {xs : List α} {g : Grp} (h : OL K Ho v xs g) (m : ∀ r ∈ g, r ∈ R) : LV K R Ho v xs := by
  obtain ⟨p, vs, rfl, d, rfl⟩ := h
  exact ⟨p, vs, rfl, d, .inr (m _ (List.mem_singleton.mpr rfl))⟩
/-- a list of its own stands for good from now on -/
theorem OL.fr {xs : List α} {g : Grp} (h : OL K Ho v xs g) (z : Zs (g ++ R) H Ho) : ∃ Ho', Same Ho Ho' ∧ Zs R H Ho' ∧ Z.D K Ho' v xs := by
  obtain ⟨p, vs, rfl, d, rfl⟩ := h
  exact frz z d
theorem g_tyL {P : Prop} {xs : List α} (d : LV K R Ho v xs) (z : Zs R H Ho) (k : P) : tyV K "list" v H ∧ P := by
  obtain ⟨p, vs, rfl, _, s⟩ := LV.rd d z
  exact ⟨.inl ⟨rfl, _, s⟩, k⟩
theorem g_app {xs : List α} {x : α} {g : Grp} {f : List α → W γ} (z : Zs (g ++ R) H Ho) (o : OL K Ho v xs g) (dx : Z.D K Ho w x) (hw : (W.bind (apd xs x) f).run Φ) (k : ∀ xs' g' H', Zs (g' ++ R) H' Ho → OL K Ho v xs' g' → (f xs').run Φ → Q .non H') : rAppend v [w] H Q := by
  obtain ⟨p, vs, rfl, d, rfl⟩ := o
  exact ⟨p, vs, w, rfl, rfl, z.head, by rw [DL.len d]; exact hw.1, k _ _ _ z.put ⟨p, _, rfl, d.push dx, rfl⟩ hw.2⟩
theorem g_ext {xs ys : List α} {g g2 : Grp} {f : List α → W γ} (z : Zs (g2 ++ (g ++ R)) H Ho) (o : OL K Ho v xs g) (o2 : OL K Ho w ys g2) (hw : (W.bind (exd xs ys) f).run Φ) (k : ∀ xs' g' H', Zs (g' ++ R) H' Ho → OL K Ho v xs' g' → (f xs').run Φ → Q .non H') : rExtend v [w] H Q := by
  obtain ⟨p, vs, rfl, d, rfl⟩ := o
  obtain ⟨q, us, rfl, d2, rfl⟩ := o2
  have z1 : Zs ((p, .lst vs) :: (q, .lst us) :: R) H Ho := Zs.sw1 z
  exact ⟨p, q, vs, us, rfl, rfl, z1.head, z.head, by rw [DL.len d, DL.len d2]; exact hw.1, k _ _ _ (Zs.tail (Zs.sw1 z1.put)) ⟨p, _, rfl, d.append d2, rfl⟩ hw.2⟩
/-- xs.insert(i, x) -/
def insL {α : Type} (xs : List α) (i : Int) (x : α) : W (List α) := W.guard (xs.length < sizeLine ∧ 0 ≤ i ∧ i < 2 ^ 63) (W.ret (xs.take i.toNat ++ [x] ++ xs.drop i.toNat))
theorem dpAll_takeG {vs : List V} {ds : List PyData} (h : DqAll K H vs ds) (n : Nat) : DqAll K H (vs.take n) (ds.take n) := dpAll_take h n
theorem g_ins {xs : List α} {x : α} {i : Int} {g : Grp} {f : List α → W γ} (z : Zs (g ++ R) H Ho) (o : OL K Ho v xs g) (dx : Z.D K Ho w x) (hw : (W.bind (insL xs i x) f).run Φ) (k : ∀ xs' g' H', Zs (g' ++ R) H' Ho → OL K Ho v xs' g' → (f xs').run Φ → Q .non H') :
    (fun x vs H Q => ∃ (l : Addr) (xs : List V) (i : Int) (y : V), x = .ref l ∧ vs = [.int i, y] ∧ H l = some (.lst xs) ∧ xs.length < sizeLine ∧ 0 ≤ i ∧ i < 2 ^ 63 ∧ Q .non (upd H l (.lst (xs.take i.toNat ++ [y] ++ xs.drop i.toNat))) : V → List V → Hp → VK → Prop) v [.int i, w] H Q := by
  obtain ⟨p, vs, rfl, d, rfl⟩ := o
  obtain ⟨⟨h1, h2, h3⟩, hw⟩ := hw
  refine ⟨p, vs, i, w, rfl, rfl, z.head, by rw [DL.len d]; exact h1, h2, h3, k _ _ _ z.put ⟨p, _, rfl, ?_, rfl⟩ hw⟩
  show DqAll _ _ _ ((xs.take i.toNat ++ [x] ++ xs.drop i.toNat).map Py.toPy)
  rw [List.map_append, List.map_append, List.map_take, List.map_drop]
  exact dpAll_append (dpAll_append (dpAll_take d _) (.cons dx .nil)) (dpAll_drop d _)
theorem g_clear {xs : List α} {g : Grp} (z : Zs (g ++ R) H Ho) (o : OL K Ho v xs g) (k : ∀ g' H', Zs (g' ++ R) H' Ho → OL K Ho v ([] : List α) g' → Q .non H') : rClear v [] H Q := by
  obtain ⟨p, vs, rfl, d, rfl⟩ := o
  exact ⟨p, vs, rfl, rfl, z.head, k _ _ z.put ⟨p, _, rfl, .nil, rfl⟩⟩
theorem dpAll_rev {vs : List V} {ds : List PyData} (h : DqAll K H vs ds) : DqAll K H vs.reverse ds.reverse := by
  induction vs generalizing ds with
  | nil => cases h; exact .nil
  | cons v vs ih => cases h with | cons h1 h2 => rw [List.reverse_cons, List.reverse_cons]; exact dpAll_append (ih h2) (.cons h1 .nil)
theorem g_rev {xs : List α} {g : Grp} (z : Zs (g ++ R) H Ho) (o : OL K Ho v xs g) (k : ∀ g' H', Zs (g' ++ R) H' Ho → OL K Ho v xs.reverse g' → Q .non H') : rReverse v [] H Q := by
  obtain ⟨p, vs, rfl, d, rfl⟩ := o
  refine ⟨p, vs, rfl, rfl, z.head, k _ _ z.put ⟨p, _, rfl, ?_, rfl⟩⟩
  show DqAll _ _ _ (xs.reverse.map Py.toPy)
  rw [List.map_reverse]
  exact dpAll_rev d
theorem g_sti {xs : List α} {x : α} {i : Int} {g : Grp} {QH : Hp → Prop} {f : List α → W γ} (z : Zs (g ++ R) H Ho) (o : OL K Ho v xs g) (dx : Z.D K Ho w x) (hw : (W.bind (sti xs i x) f).run Φ) (k : ∀ xs' g' H', Zs (g' ++ R) H' Ho → OL K Ho v xs' g' → (f xs').run Φ → QH H') : rSetL v (.int i) w H QH := by
  obtain ⟨p, vs, rfl, d, rfl⟩ := o
  obtain ⟨j, ej, hw⟩ := hw
  exact ⟨p, vs, i, j, rfl, rfl, z.head, by rw [DL.len d]; exact ej, k _ _ _ z.put ⟨p, _, rfl, DL.set d dx j, rfl⟩ hw⟩
theorem g_pop {xs : List α} {g : Grp} {f : α → W γ} (z : Zs (g ++ R) H Ho) (o : OL K Ho v xs g) (hw : (W.bind (popL xs) f).run Φ) (k : ∀ t w g' H', Zs (g' ++ R) H' Ho → OL K Ho v xs.dropLast g' → Z.D K Ho w t → (f t).run Φ → Q w H') : rPop v [] H Q := by
  obtain ⟨p, vs, rfl, d, rfl⟩ := o
  exact y_pop (n := 0) z rfl d hw fun t w ws' H' z' d' dw hw => k t w _ H' z' ⟨p, _, rfl, d', rfl⟩ dw hw
theorem g_popI {xs : List α} {i : Int} {g : Grp} {f : α × List α → W γ} (z : Zs (g ++ R) H Ho) (o : OL K Ho v xs g) (hw : (W.bind (popI xs i) f).run Φ) (k : ∀ t xs' w g' H', Zs (g' ++ R) H' Ho → OL K Ho v xs' g' → Z.D K Ho w t → (f (t, xs')).run Φ → Q w H') : rPopAt v [.int i] H Q := by
  obtain ⟨p, vs, rfl, d, rfl⟩ := o
  exact y_popI (n := 0) z rfl d hw fun t xs' w ws' H' z' d' dw hw => k t xs' w _ H' z' ⟨p, _, rfl, d', rfl⟩ dw hw
/-! ### a value gets a name -/
def LetV (G : V → Prop) (v : V) : Prop := G v
theorem l_asg {u : TS} {te : TE} {D : Ends} {σ : L2.St} {i : Nat} (σ' : V → L2.St) (hσ : ∀ v, σ.set i (some v) = σ' v) (k : te σ H fun v H1 => LetV (fun v => u D (σ' v) H1) v) : tSeq (tAsg te (gName i)) u D σ H := by
  have e : (fun v H1 => LetV (fun v => u D (σ' v) H1) v) = fun v H1 => u D (σ.set i (some v)) H1 := by funext v H1; rw [hσ]; rfl
  rw [e] at k
  exact k
variable {G : V → Prop}
theorem l_n (k : G .non) : LetV G .non := k
theorem l_i {e : Int} {f : Int → W γ} (hw : (W.bind (W.ret e) f).run Φ) (k : ∀ x, (f x).run Φ → G (.int x)) : LetV G (.int e) := k e hw
theorem l_b {e : Bool} {f : Bool → W γ} (hw : (W.bind (W.ret e) f).run Φ) (k : ∀ x, (f x).run Φ → G (.bl x)) : LetV G (.bl e) := k e hw
theorem l_s {e : Str} {f : Str → W γ} (hw : (W.bind (W.ret e) f).run Φ) (k : ∀ x, (f x).run Φ → G (.str x)) : LetV G (.str e) := k e hw
theorem l_d {e : α} {f : α → W γ} (hw : (W.bind (W.ret e) f).run Φ) (d : Z.D K Ho v e) (k : ∀ x v, Z.D K Ho v x → (f x).run Φ → G v) : LetV G v := k e v d hw
theorem l_o {e : List α} {g : Grp} {f : List α → W γ} (hw : (W.bind (W.ret e) f).run Φ) (z : Zs (g ++ R) H Ho) (o : OL K Ho v e g) (k : ∀ x v g, Zs (g ++ R) H Ho → OL K Ho v x g → (f x).run Φ → G v) : LetV G v := k e v g z o hw
/-- what is told stands for good -/
theorem l_fr {P : Prop} {xs : List α} {g : Grp} (o : OL K Ho v xs g) (z : Zs (g ++ R) H Ho) (k : ∀ Ho', Same Ho Ho' → Zs R H Ho' → Z.D K Ho' v xs → P) : P := by
  obtain ⟨Ho', e, z', d⟩ := o.fr z
  exact k Ho' e z' d
/-! ### ways -/
theorem w_t {X Y : Prop} (k : X) : if true = true then X else Y := by simpa using k
/-- both ways tell a value and change nothing -/
theorem w_if {σ : L2.St} {ta tb : TE} {c : Bool} {a b : β} (mk : β → V) (h1 : c = true → Q (mk a) H → ta σ H Q) (h2 : c = false → Q (mk b) H → tb σ H Q) (k : Q (mk (if c = true then a else b)) H) : if c = true then ta σ H Q else tb σ H Q := by
  cases c with
  | true => exact iteT (h1 rfl k)
  | false => exact iteF (h2 rfl k)
theorem w_andP {σ : L2.St} {tu : TT} {QB : Bool → Hp → Prop} {a : Bool} (b : Bool) (h : a = true → QB b H → tu σ H QB) (k : QB (a && b) H) : if a = true then tu σ H QB else QB false H := by
  cases a with
  | true => exact iteT (h rfl k)
  | false => exact iteF k
theorem w_orP {σ : L2.St} {tu : TT} {QB : Bool → Hp → Prop} {a : Bool} (b : Bool) (h : a = false → QB b H → tu σ H QB) (k : QB (a || b) H) : if a = true then QB true H else tu σ H QB := by
  cases a with
  | true => exact iteT k
  | false => exact iteF (h rfl k)
theorem w_andPV {σ : L2.St} {tb : TE} {a : Bool} (b : Bool) (h : a = true → Q (.bl b) H → tb σ H Q) (k : Q (.bl (a && b)) H) : if a = true then tb σ H Q else Q (.bl false) H := by
  cases a with
  | true => exact iteT (h rfl k)
  | false => exact iteF k
theorem w_orPV {σ : L2.St} {tb : TE} {a : Bool} (b : Bool) (h : a = false → Q (.bl b) H → tb σ H Q) (k : Q (.bl (a || b)) H) : if a = true then Q (.bl true) H else tb σ H Q := by
  cases a with
  | true => exact iteT k
  | false => exact iteF (h rfl k)
theorem w_chain {σ : L2.St} {tc : TE} {r' : R2} {y : V} {a : Bool} (b : Bool) (h : a = true → Q (.bl b) H → tc σ H fun w' H4 => r' y w' H4 Q) (k : Q (.bl (a && b)) H) : if a = true then tc σ H (fun w' H4 => r' y w' H4 Q) else Q (.bl false) H := by
  cases a with
  | true => exact iteT (h rfl k)
  | false => exact iteF k
/-! ways that meet -/
section
variable {S ρ : Type} {b : Bool} {c1 c2 : W S} {f : S → W γ} {σ : L2.St} {D : Ends} {u t1 t2 : TS} {tu : TT} {ta tb : TE} {QB : Bool → Hp → Prop}
theorem w_ifJ (hw : (W.bind (W.ite b c1 c2) f).run Φ) (J : S → L2.St → Hp → Prop)
    (h1 : b = true → c1.run (fun s => ∀ σ' H', J s σ' H' → u D σ' H') → t1 { D with nx := u D } σ H)
    (h2 : b = false → c2.run (fun s => ∀ σ' H', J s σ' H' → u D σ' H') → t2 { D with nx := u D } σ H)
    (k : ∀ s σ' H', J s σ' H' → (f s).run Φ → u D σ' H') : if b = true then t1 { D with nx := u D } σ H else t2 { D with nx := u D } σ H := by
  cases b with
  | true => exact iteT (h1 rfl (W.mono _ _ _ (fun s q σ' H' j => k s σ' H' j q) (hw.1 rfl)))
  | false => exact iteF (h2 rfl (W.mono _ _ _ (fun s q σ' H' j => k s σ' H' j q) (hw.2 rfl)))
theorem w_ifC {Φ : ρ → Prop} {c1 c2 : W (Ctl ρ S)} {f : S → W ρ} (hw : (W.bind (W.ite b c1 c2) fun c => W.after c f).run Φ) (J : S → L2.St → Hp → Prop)
    (h1 : b = true → c1.run (CtlP (fun s => ∀ σ' H', J s σ' H' → u D σ' H') (fun s => ∀ σ' H', J s σ' H' → u D σ' H') Φ) → t1 { D with nx := u D } σ H)
    (h2 : b = false → c2.run (CtlP (fun s => ∀ σ' H', J s σ' H' → u D σ' H') (fun s => ∀ σ' H', J s σ' H' → u D σ' H') Φ) → t2 { D with nx := u D } σ H)
    (k : ∀ s σ' H', J s σ' H' → (f s).run Φ → u D σ' H') : if b = true then t1 { D with nx := u D } σ H else t2 { D with nx := u D } σ H := by
  have m : ∀ c : W (Ctl ρ S), c.run (fun c => (W.after c f).run Φ) → c.run (CtlP (fun s => ∀ σ' H', J s σ' H' → u D σ' H') (fun s => ∀ σ' H', J s σ' H' → u D σ' H') Φ) := fun c h => c.mono _ _ (fun r q => by
    cases r with
    | nx s => exact fun σ' H' j => k s σ' H' j q
    | bk s => exact fun σ' H' j => k s σ' H' j q
    | rt r => exact q) h
  cases b with
  | true => exact iteT (h1 rfl (m _ (hw.1 rfl)))
  | false => exact iteF (h2 rfl (m _ (hw.2 rfl)))
theorem w_andJ (hw : (W.bind (W.ite b c1 c2) f).run Φ) (J : S → Bool → Hp → Prop)
    (h1 : b = true → c1.run (fun s => ∀ v H', J s v H' → QB v H') → tu σ H QB)
    (h2 : b = false → c2.run (fun s => ∀ v H', J s v H' → QB v H') → QB false H)
    (k : ∀ s v H', J s v H' → (f s).run Φ → QB v H') : if b = true then tu σ H QB else QB false H := by
  cases b with
  | true => exact iteT (h1 rfl (W.mono _ _ _ (fun s q v H' j => k s v H' j q) (hw.1 rfl)))
  | false => exact iteF (h2 rfl (W.mono _ _ _ (fun s q v H' j => k s v H' j q) (hw.2 rfl)))
theorem w_orJ (hw : (W.bind (W.ite b c1 c2) f).run Φ) (J : S → Bool → Hp → Prop)
    (h1 : b = true → c1.run (fun s => ∀ v H', J s v H' → QB v H') → QB true H)
    (h2 : b = false → c2.run (fun s => ∀ v H', J s v H' → QB v H') → tu σ H QB)
    (k : ∀ s v H', J s v H' → (f s).run Φ → QB v H') : if b = true then QB true H else tu σ H QB := by
  cases b with
  | true => exact iteT (h1 rfl (W.mono _ _ _ (fun s q v H' j => k s v H' j q) (hw.1 rfl)))
  | false => exact iteF (h2 rfl (W.mono _ _ _ (fun s q v H' j => k s v H' j q) (hw.2 rfl)))
theorem w_andVJ (hw : (W.bind (W.ite b c1 c2) f).run Φ) (J : S → V → Hp → Prop)
    (h1 : b = true → c1.run (fun s => ∀ v H', J s v H' → Q v H') → tb σ H Q)
    (h2 : b = false → c2.run (fun s => ∀ v H', J s v H' → Q v H') → Q (.bl false) H)
    (k : ∀ s v H', J s v H' → (f s).run Φ → Q v H') : if b = true then tb σ H Q else Q (.bl false) H := by
  cases b with
  | true => exact iteT (h1 rfl (W.mono _ _ _ (fun s q v H' j => k s v H' j q) (hw.1 rfl)))
  | false => exact iteF (h2 rfl (W.mono _ _ _ (fun s q v H' j => k s v H' j q) (hw.2 rfl)))
theorem w_orVJ (hw : (W.bind (W.ite b c1 c2) f).run Φ) (J : S → V → Hp → Prop)
    (h1 : b = true → c1.run (fun s => ∀ v H', J s v H' → Q v H') → Q (.bl true) H)
    (h2 : b = false → c2.run (fun s => ∀ v H', J s v H' → Q v H') → tb σ H Q)
    (k : ∀ s v H', J s v H' → (f s).run Φ → Q v H') : if b = true then Q (.bl true) H else tb σ H Q := by
  cases b with
  | true => exact iteT (h1 rfl (W.mono _ _ _ (fun s q v H' j => k s v H' j q) (hw.1 rfl)))
  | false => exact iteF (h2 rfl (W.mono _ _ _ (fun s q v H' j => k s v H' j q) (hw.2 rfl)))
theorem w_ifEJ (hw : (W.bind (W.ite b c1 c2) f).run Φ) (J : S → V → Hp → Prop)
    (h1 : b = true → c1.run (fun s => ∀ v H', J s v H' → Q v H') → ta σ H Q)
    (h2 : b = false → c2.run (fun s => ∀ v H', J s v H' → Q v H') → tb σ H Q)
    (k : ∀ s v H', J s v H' → (f s).run Φ → Q v H') : if b = true then ta σ H Q else tb σ H Q := by
  cases b with
  | true => exact iteT (h1 rfl (W.mono _ _ _ (fun s q v H' j => k s v H' j q) (hw.1 rfl)))
  | false => exact iteF (h2 rfl (W.mono _ _ _ (fun s q v H' j => k s v H' j q) (hw.2 rfl)))
end
/-! ### targets -/
section
variable {δ ε : Type} [Py δ] [Py ε] {i j l m : Nat} {x : V} {σ : L2.St} {QS : L2.St → Hp → Prop} {rs : Grp}
theorem c_gt2 {a : α × β} (σ' : V → V → L2.St) (hσ : ∀ v u, (σ.set i (some v)).set j (some u) = σ' v u) (d : Z.D K Ho x a) (z : Zs rs H Ho) (k : ∀ v u, Z.D K Ho v a.1 → Z.D K Ho u a.2 → QS (σ' v u) H) : gTup K 2 (gCons (gName i) (gCons (gName j) gNil)) x σ H QS :=
  y_gt2 d z fun v u d1 d2 => by rw [hσ]; exact k v u d1 d2
theorem c_gt3 {a : P3 α β δ} (σ' : V → V → V → L2.St) (hσ : ∀ v u w, ((σ.set i (some v)).set j (some u)).set l (some w) = σ' v u w) (d : Z.D K Ho x a) (z : Zs rs H Ho) (k : ∀ v u w, Z.D K Ho v a.a → Z.D K Ho u a.b → Z.D K Ho w a.c → QS (σ' v u w) H) : gTup K 3 (gCons (gName i) (gCons (gName j) (gCons (gName l) gNil))) x σ H QS :=
  y_gt3 d z fun v u w d1 d2 d3 => by rw [hσ]; exact k v u w d1 d2 d3
theorem c_gt4 {a : P4 α β δ ε} (σ' : V → V → V → V → L2.St) (hσ : ∀ v u w t, (((σ.set i (some v)).set j (some u)).set l (some w)).set m (some t) = σ' v u w t) (d : Z.D K Ho x a) (z : Zs rs H Ho) (k : ∀ v u w t, Z.D K Ho v a.a → Z.D K Ho u a.b → Z.D K Ho w a.c → Z.D K Ho t a.d → QS (σ' v u w t) H) : gTup K 4 (gCons (gName i) (gCons (gName j) (gCons (gName l) (gCons (gName m) gNil)))) x σ H QS :=
  y_gt4 d z fun v u w t d1 d2 d3 d4 => by rw [hσ]; exact k v u w t d1 d2 d3 d4
theorem l_u {e : α} {f : α → W γ} {P : V → Prop} (hw : (W.bind (W.ret e) f).run Φ) (d : Z.D K Ho v e) (k : ∀ x v, Z.D K Ho v x → (f x).run Φ → P v) : P v := k e v d hw
theorem l_u2 {e : α} {f : α → W γ} {P : Prop} (hw : (W.bind (W.ret e) f).run Φ) (d : Z.D K Ho v e) (k : ∀ x, Z.D K Ho v x → (f x).run Φ → P) : P := k e d hw
theorem l_aug {te : TE} {tip : TIp} {u : TS} {D : Ends} (σ' : V → L2.St) (h : σ[i]? = some (some v)) (hσ : ∀ v, σ.set i (some v) = σ' v) (k : te σ H fun y H1 => tip v y H1 fun z H2 => LetV (fun v => u D (σ' v) H2) z) : tSeq (tAug i te tip) u D σ H := by
  refine y_aug σ' h hσ ?_
  exact k
end
/-! ### lists of unlike things -/
section
class Hc (α : Type) where
  cs : α → List PyData
structure H2 (α β : Type) where
  a : α
  b : β
  deriving DecidableEq
structure H3 (α β γ : Type) where
  a : α
  b : β
  c : γ
  deriving DecidableEq
structure H4 (α β γ δ : Type) where
  a : α
  b : β
  c : γ
  d : δ
  deriving DecidableEq
structure H5 (α β γ δ ε : Type) where
  a : α
  b : β
  c : γ
  d : δ
  e : ε
  deriving DecidableEq
instance {α β : Type} [Py α] [Py β] : Hc (H2 α β) := ⟨fun p => [toPy p.a, toPy p.b]⟩
instance {α β γ : Type} [Py α] [Py β] [Py γ] : Hc (H3 α β γ) := ⟨fun p => [toPy p.a, toPy p.b, toPy p.c]⟩
instance {α β γ δ : Type} [Py α] [Py β] [Py γ] [Py δ] : Hc (H4 α β γ δ) := ⟨fun p => [toPy p.a, toPy p.b, toPy p.c, toPy p.d]⟩
instance {α β γ δ ε : Type} [Py α] [Py β] [Py γ] [Py δ] [Py ε] : Hc (H5 α β γ δ ε) := ⟨fun p => [toPy p.a, toPy p.b, toPy p.c, toPy p.d, toPy p.e]⟩
instance {α : Type} [Hc α] : Py α := ⟨fun p => .list (Hc.cs p)⟩
variable {η : Type} [Hc η]
def OH (K : PySem.W.Frag) (Ho : Hp) (v : V) (x : η) (g : Grp) : Prop := ∃ p vs, v = .ref p ∧ DqAll K Ho vs (Hc.cs x) ∧ g = [(p, .lst vs)]
theorem OH.mo {v : V} {x : η} {g : Grp} (h : OH K Ho v x g) (e : Same Ho Ho') : OH K Ho' v x g := by
  obtain ⟨p, vs, rfl, d, rfl⟩ := h
  exact ⟨p, vs, rfl, dpAll_mono e _ _ d, rfl⟩
theorem atI_dq {vs : List V} {ds : List PyData} {i : Int} {d : PyData} (h : DqAll K H vs ds) (e : atI ds i = some d) : ∃ v, atI vs i = some v ∧ Dq K H v d := by
  unfold atI at e ⊢
  rw [dpAll_len h]
  cases q : ixN ds.length i with
  | none => rw [q] at e; cases e
  | some j => rw [q] at e; exact dpAll_get h e
theorem h_ix {x : η} {y : β} {i : Int} {g : Grp} (o : OH K Ho v x g) (z : Zs (g ++ R) H Ho) (hj : atI (Hc.cs x) i = some (toPy y)) (k : ∀ w, Z.D K Ho w y → Q w H) : rIxL K v (.int i) H Q := by
  obtain ⟨p, vs, rfl, d, rfl⟩ := o
  obtain ⟨w, ew, dw⟩ := atI_dq d hj
  exact ⟨p, vs, i, w, rfl, rfl, SqL.of z.head, ew, k w dw⟩
theorem h_st {x y : η} {e : β} {i : Int} {j : Nat} {g : Grp} {QH : Hp → Prop} (z : Zs (g ++ R) H Ho) (o : OH K Ho v x g) (dx : Z.D K Ho w e) (hj : ixN (Hc.cs x).length i = some j) (hy : Hc.cs y = (Hc.cs x).set j (toPy e)) (k : ∀ g' H', Zs (g' ++ R) H' Ho → OH K Ho v y g' → QH H') : rSetL v (.int i) w H QH := by
  obtain ⟨p, vs, rfl, d, rfl⟩ := o
  refine ⟨p, vs, i, j, rfl, rfl, z.head, by rw [dpAll_len d]; exact hj, k _ _ z.put ⟨p, _, rfl, ?_, rfl⟩⟩
  rw [hy]
  exact dpAll_set d dx j
theorem OH.fr {x : η} {g : Grp} (h : OH K Ho v x g) (z : Zs (g ++ R) H Ho) : ∃ Ho', Same Ho Ho' ∧ Zs R H Ho' ∧ Z.D K Ho' v x := by
  obtain ⟨p, vs, rfl, d, rfl⟩ := h
  have z : Zs ((p, .lst vs) :: R) H Ho := z
  have e : Same Ho (upd Ho p (.lst vs)) := Same.new z.headN
  exact ⟨_, e, z.freeze, .lst (SqL.of upd_same) (dpAll_mono e _ _ d)⟩
theorem h_fr {P : Prop} {x : η} {g : Grp} (o : OH K Ho v x g) (z : Zs (g ++ R) H Ho) (k : ∀ Ho', Same Ho Ho' → Zs R H Ho' → Z.D K Ho' v x → P) : P := by
  obtain ⟨Ho', e, z', d⟩ := o.fr z
  exact k Ho' e z' d
theorem h_nm {P : Prop} {e : η} {g : Grp} {f : η → W γ} (hw : (W.bind (W.ret e) f).run Φ) (o : OH K Ho v e g) (k : ∀ x, OH K Ho v x g → (f x).run Φ → P) : P := k e o hw
theorem h_nmL {P : Prop} {e : List α} {g : Grp} {f : List α → W γ} (hw : (W.bind (W.ret e) f).run Φ) (o : OL K Ho v e g) (k : ∀ x, OL K Ho v x g → (f x).run Φ → P) : P := k e o hw
theorem h_o {G : V → Prop} {e : η} {g : Grp} {f : η → W γ} (hw : (W.bind (W.ret e) f).run Φ) (z : Zs (g ++ R) H Ho) (o : OH K Ho v e g) (k : ∀ x v g, Zs (g ++ R) H Ho → OH K Ho v x g → (f x).run Φ → G v) : LetV G v := k e v g z o hw
/-- the display [a, b, ..] of unlike things -/
theorem h_lst {vs : List V} {x : η} (z : Zs R H Ho) (hx : DqAll K Ho vs (Hc.cs x)) (hl : vs.length ≤ sizeLine) (k : ∀ H' p g, Zs (g ++ R) H' Ho → OH K Ho (.ref p) x g → Q (.ref p) H') : vs.length ≤ sizeLine ∧ ∀ p, H p = none → Q (.ref p) (upd H p (.lst vs)) :=
  ⟨hl, fun p hp => k _ p _ (z.root hp) ⟨p, _, rfl, hx, rfl⟩⟩
end
end
section
variable {K : PySem.W.Frag} {H Ho H' Ho' : Hp} {α β γ : Type} [Py α] [Py β] {Φ : γ → Prop} {R rs : Grp} {v w : V} {Q : VK} {σ : L2.St}
theorem y_get {P : Prop} {x : Option β} {f : β → W γ} (d : Z.D K Ho v x) (hw : (W.bind (W.opt x) f).run Φ) (k : ∀ t, Z.D K Ho v t → (f t).run Φ → P) : P := by
  obtain ⟨t, rfl, hw⟩ := hw
  exact k t d hw
theorem y_lstRg {te : L2.St → Hp → (Int → Int → Hp → Prop) → Prop} (k : te σ H fun a b H1 => RgOk a b ∧ ∀ q, H1 q = none → Q (.ref q) (upd H1 q (.lst (rgV a b)))) : tLstRg te σ H Q := k
theorem y_rg1 {ta : TE} {QR : Int → Int → Hp → Prop} (k : ta σ H fun x H1 => ∃ n, x = .int n ∧ QR 0 n H1) : tRg1 ta σ H QR := k
theorem y_rg2 {ta tb : TE} {QR : Int → Int → Hp → Prop} (k : ta σ H fun x H1 => tb σ H1 fun y H2 => ∃ i j, x = .int i ∧ y = .int j ∧ QR i j H2) : tRg2 ta tb σ H QR := k
theorem y_rg1v {QR : Int → Int → Hp → Prop} {n : Int} (k : QR 0 n H) : ∃ m, V.int n = .int m ∧ QR 0 m H := ⟨n, rfl, k⟩
theorem y_rg2v {QR : Int → Int → Hp → Prop} {i j : Int} (k : QR i j H) : ∃ i' j', V.int i = .int i' ∧ V.int j = .int j' ∧ QR i' j' H := ⟨i, j, rfl, rfl, k⟩
theorem rgV_rng {a b : Int} : rgV a b = (rng a b).map V.int := by
  unfold rgV rng
  rw [List.map_map]
  rfl
theorem y_listR {a b : Int} (z : Zs rs H Ho) (hg : RgOk a b) (k : ∀ H' p ws, Zs ((p, .lst ws) :: rs) H' Ho → DL K Ho ws (rng a b) → Q (.ref p) H') : RgOk a b ∧ ∀ q, H q = none → Q (.ref q) (upd H q (.lst (rgV a b))) :=
  ⟨hg, fun q hq => by rw [rgV_rng]; exact k _ q _ (z.root hq) ints_dl⟩
theorem dpAll_lenT {x : α} {ds : List PyData} (hx : toPy x = .tuple ds) (d : Z.D K Ho v x) (z : Zs rs H Ho) (k : Q (.int (ds.length : Int)) H) : rLenZ K [v] H Q := by
  have d : Dq K Ho v (toPy x) := d
  rw [hx] at d
  cases d with
  | tup hs ha =>
    refine ⟨_, _, rfl, .inr (SqT.of (z.le _ _ hs)), ?_⟩
    rw [dpAll_len ha]; exact k
end
/-! ### what is asked of a value, not taken apart too early -/
section
variable {K : PySem.W.Frag} {H Ho H' Ho' : Hp} {α β γ : Type} [Py α] [Py β] {Φ : γ → Prop} {rs r0 : Grp} {v w u : V} {vs : List V} {Q : VK} {σ : L2.St} {ts : TA} {te : TE} {R : It → Hp → Prop}
def LstK (Q : VK) (vs : List V) (H : Hp) : Prop := vs.length ≤ sizeLine ∧ ∀ p, H p = none → Q (.ref p) (upd H p (.lst vs))
def TupK (Q : VK) (vs : List V) (H : Hp) : Prop := vs.length ≤ sizeLine ∧ ∀ p, H p = none → Q (.ref p) (upd H p (.tup vs))
def RgK (Q : VK) (a b : Int) (H : Hp) : Prop := RgOk a b ∧ ∀ q, H q = none → Q (.ref q) (upd H q (.lst (rgV a b)))
theorem k_lst (k : ts σ H fun xs H1 => LstK Q xs H1) : tLst ts σ H Q := k
theorem k_tup (k : ts σ H fun xs H1 => TupK Q xs H1) : tTup ts σ H Q := k
theorem k_lstk {xs : List α} (z : Zs rs H Ho) (d : DL K Ho vs xs) (hl : vs.length ≤ sizeLine) (k : ∀ H' p ws, Zs ((p, .lst ws) :: rs) H' Ho → DL K Ho ws xs → Q (.ref p) H') : LstK Q vs H := y_lstk z d hl k
theorem k_tupk {x : α} (z : Zs rs H Ho) (hl : vs.length ≤ sizeLine) (ds : List PyData) (hx : toPy x = .tuple ds) (d : DqAll K Ho vs ds) (k : ∀ p H' Ho', Same Ho Ho' → Zs rs H' Ho' → Z.D K Ho' (.ref p) x → Q (.ref p) H') : TupK Q vs H := y_tupk z hl ds hx d k
theorem k_hlst {η : Type} [Hc η] {x : η} (z : Zs rs H Ho) (hx : DqAll K Ho vs (Hc.cs x)) (hl : vs.length ≤ sizeLine) (k : ∀ H' p g, Zs (g ++ rs) H' Ho → OH K Ho (.ref p) x g → Q (.ref p) H') : LstK Q vs H := h_lst z hx hl k
theorem k_lstRg {tr : L2.St → Hp → (Int → Int → Hp → Prop) → Prop} (k : tr σ H fun a b H1 => RgK Q a b H1) : tLstRg tr σ H Q := k
theorem k_listR {a b : Int} (z : Zs rs H Ho) (hg : RgOk a b) (k : ∀ H' p ws, Zs ((p, .lst ws) :: rs) H' Ho → DL K Ho ws (rng a b) → Q (.ref p) H') : RgK Q a b H := y_listR z hg k
def SrcL (K : PySem.W.Frag) (R : It → Hp → Prop) (x : V) (H : Hp) : Prop := ∃ a, x = .ref a ∧ (∃ xs, SqL K H a xs) ∧ R (Itl K a) H
def SrcT (K : PySem.W.Frag) (R : It → Hp → Prop) (x : V) (H : Hp) : Prop := ∃ a, x = .ref a ∧ (∃ xs, SqT K H a xs) ∧ R (Itt K a) H
def Src1 (R : It → Hp → Prop) (vs : List V) (H : Hp) : Prop := ∃ j : Int, vs = [.int j] ∧ -(2 ^ 62) ≤ j ∧ j < 2 ^ 62 ∧ R (Itr 0 j.toNat) H
def Src2 (R : It → Hp → Prop) (vs : List V) (H : Hp) : Prop := ∃ i j : Int, vs = [.int i, .int j] ∧ (-(2 ^ 62) ≤ i ∧ i < 2 ^ 62 ∧ -(2 ^ 62) ≤ j ∧ j < 2 ^ 62) ∧ R (Itr i (j - i).toNat) H
def Src3 (R : It → Hp → Prop) (vs : List V) (H : Hp) : Prop := ∃ (a b c : Int) (n : Nat), vs = [.int a, .int b, .int c] ∧ RgC a b c n ∧ R (Itc a c n) H
def SrcZ (K : PySem.W.Frag) (R : It → Hp → Prop) (vs : List V) (H : Hp) : Prop := ∃ a b xs ys, vs = [.ref a, .ref b] ∧ SqL K H a xs ∧ SqL K H b ys ∧ R (Itz K a b) H
def SrcE (K : PySem.W.Frag) (R : It → Hp → Prop) (vs : List V) (H : Hp) : Prop := ∃ a xs, vs = [.ref a] ∧ SqL K H a xs ∧ R (Ite K a) H
def SrcV (K : PySem.W.Frag) (R : It → Hp → Prop) (vs : List V) (H : Hp) : Prop := ∃ a xs, vs = [.ref a] ∧ SqL K H a xs ∧ R (Itv K a xs.length) H
theorem k_iList (k : te σ H fun x H1 => SrcL K R x H1) : iList K te σ H R := k
theorem k_iTup (k : te σ H fun x H1 => SrcT K R x H1) : iTup K te σ H R := k
theorem k_iR1 (k : ts σ H fun vs H1 => Src1 R vs H1) : iRng1 ts σ H R := k
theorem k_iR2 (k : ts σ H fun vs H1 => Src2 R vs H1) : iRng2 ts σ H R := k
theorem k_iR3 (k : ts σ H fun vs H1 => Src3 R vs H1) : iRng3 ts σ H R := k
theorem k_iZip (k : ts σ H fun vs H1 => SrcZ K R vs H1) : iZip K ts σ H R := k
theorem k_iEnum (k : ts σ H fun vs H1 => SrcE K R vs H1) : iEnum K ts σ H R := k
theorem k_iRev (k : ts σ H fun vs H1 => SrcV K R vs H1) : iRev K ts σ H R := k
theorem k_srcL {xs : List α} (d : LV K r0 Ho v xs) (hs : ∀ r ∈ r0, r ∈ rs) (z : Zs rs H Ho) (k : ∀ J, Trn K r0 J xs Ho → R J H) : SrcL K R v H := y_srcL d hs z k
theorem k_srcT {x : β} {xs : List α} (d : Z.D K Ho v x) (hf : toPy x = .tuple (xs.map Py.toPy)) (z : Zs rs H Ho) (k : ∀ J, Trn K [] J xs Ho → R J H) : SrcT K R v H := y_srcT d hf z k
theorem k_srcR1 {n : Int} (hg : rngOk 0 n) (k : ∀ J, Trn K [] J (rng 0 n) Ho → R J H) : Src1 R [V.int n] H := y_srcR1 hg k
theorem k_srcR2 {a b : Int} (hg : rngOk a b) (k : ∀ J, Trn K [] J (rng a b) Ho → R J H) : Src2 R [V.int a, V.int b] H := y_srcR2 hg k
theorem k_srcR3 {a b : Int} (hg : rngOk b a) (k : ∀ J, Trn K [] J (rngD a b) Ho → R J H) : Src3 R [V.int a, V.int b, V.int (-1)] H := y_srcR3 hg k
theorem k_srcZ {xs : List α} {ys : List β} (d : LV K r0 Ho v xs) (d' : LV K r0 Ho u ys) (hs : ∀ r ∈ r0, r ∈ rs) (z : Zs rs H Ho) (k : ∀ J, Trn K r0 J (xs.zip ys) Ho → R J H) : SrcZ K R [v, u] H := y_srcZ d d' hs z k
theorem k_srcE {xs : List α} (d : LV K r0 Ho v xs) (hs : ∀ r ∈ r0, r ∈ rs) (z : Zs rs H Ho) (k : ∀ J, Trn K r0 J (enumZ xs) Ho → R J H) : SrcE K R [v] H := y_srcE d hs z k
theorem k_srcV {xs : List α} (d : LV K r0 Ho v xs) (hs : ∀ r ∈ r0, r ∈ rs) (z : Zs rs H Ho) (k : ∀ J, Trn K r0 J xs.reverse Ho → R J H) : SrcV K R [v] H := y_srcV d hs z k
theorem y_nxS {D : Ends} {u : TS} (k : u D σ H) : tNext { D with nx := u D } σ H := k
end
section
variable {K : PySem.W.Frag} {H Ho H' Ho' : Hp} {α β γ : Type} [Py α] [Py β] {Φ : γ → Prop} {rs R : Grp} {v w : V} {Q : VK} {σ : L2.St} {ta : TA} {D : Ends} {u : TS} {i j : Nat}
theorem not_isNone {x : Option β} : (!x.isNone) = x.isSome := by cases x <;> rfl
def rInsert : V → List V → Hp → VK → Prop := fun x vs H Q => ∃ (l : Addr) (xs : List V) (i : Int) (y : V), x = .ref l ∧ vs = [.int i, y] ∧ H l = some (.lst xs) ∧ xs.length < sizeLine ∧ 0 ≤ i ∧ i < 2 ^ 63 ∧ Q .non (upd H l (.lst (xs.take i.toNat ++ [y] ++ xs.drop i.toNat)))
theorem zmt_insert {X : Cx} : MtR X "list.insert" rInsert := mt_insert
theorem k_ins {xs : List α} {x : α} {i : Int} {g : Grp} {f : List α → W γ} (z : Zs (g ++ R) H Ho) (o : OL K Ho v xs g) (dx : Z.D K Ho w x) (hw : (W.bind (insL xs i x) f).run Φ) (k : ∀ xs' g' H', Zs (g' ++ R) H' Ho → OL K Ho v xs' g' → (f xs').run Φ → Q .non H') : rInsert v [.int i, w] H Q := g_ins z o dx hw k
def Par2 (G : V → V → Prop) (vs : List V) : Prop := ∃ v w, vs = [v, w] ∧ G v w
theorem l_par (σ' : V → V → L2.St) (hσ : ∀ v w, (σ.set i (some v)).set j (some w) = σ' v w) (k : ta σ H fun vs H1 => Par2 (fun v w => u D (σ' v w) H1) vs) : tSeq (tPar i j ta) u D σ H := by
  have e : (fun vs H1 => Par2 (fun v w => u D (σ' v w) H1) vs) = fun vs H1 => ∃ v w, vs = [v, w] ∧ u D ((σ.set i (some v)).set j (some w)) H1 := by
    funext vs H1
    unfold Par2
    simp only [hσ]
  rw [e] at k
  exact k
theorem l_par2 {G : V → V → Prop} (k : LetV (fun v => LetV (fun w => G v w) w) v) : Par2 G [v, w] := ⟨v, w, rfl, k⟩
end
section
variable {K : PySem.W.Frag} {H Ho : Hp} {rs : Grp} {vs : List V} {Q : VK} {σ : L2.St} {ts : TA}
theorem k_tcs {QV : VK} (z : Zs rs H Ho) (ht : TCs ts vs) (hl : vs.length ≤ sizeLine) (k : ∀ p H' Ho', Same Ho Ho' → Zs rs H' Ho' → H' p = some (.tup vs) → QV (.ref p) H') : tTup ts σ H QV :=
  ht.run ⟨hl, fun p hp => k p _ _ (Same.new (z.free hp)) (z.alloc hp) upd_same⟩
theorem k_isXT {cl : Nat → Addr} {n : Nat} {a p : Addr} {us : List Value} {b : Bool} (hp : H p = some (.tup vs)) (xc : ExcC K (cl n)) (k : Paired ClsV vs us) (e : PySem.W.kitAny K (.ref (cl n)) us = some b) (q : Q (.bl b) H) : rIsXT K a (.ref (cl n)) none [.ref a, .ref p] H Q :=
  ⟨_, p, vs, us, b, rfl, rfl, rfl, hp, k, xc, e, q⟩
end
end Z

/-! # dicts with int keys and with keys of two ints -/
namespace Z
open PySem L2
theorem room1 {k : Nat} {A : Around} (r : Room k A) : A.units + 1 < cLine := by have := r.un; omega
abbrev Dc (κ α : Type) := List (κ × α)
section
variable {κ α : Type} [DecidableEq κ]
def valM (m : Dc κ α) (k : κ) : Option α := (m.find? fun p => decide (p.1 = k)).map (·.2)
def putM (m : Dc κ α) (k : κ) (a : α) : Dc κ α := if (m.any fun p => decide (p.1 = k)) = true then m.map (fun p => if p.1 = k then (p.1, a) else p) else m ++ [(k, a)]
def putG (m : Dc κ α) (k : κ) (a : α) : W (Dc κ α) := W.guard (m.length < sizeLine) (W.ret (putM m k a))
end
class DKey (κ : Type) [Py κ] where
  kt : Type
  dec : DecidableEq kt
  key : κ → kt
  inj : ∀ {a b : κ}, key a = key b → a = b
  ho : List (kt × V) → HO
  nt : ∀ kvs, NotTup (ho kvs) := by intro kvs; exact trivial
  get : ∀ {K : PySem.W.Frag} {H Ho : Hp} {v : V} {k : κ} {p : Addr} {kvs : List (kt × V)}, H p = some (ho kvs) → Same Ho H → Z.D K Ho v k → DGet H p v (@valV kt dec kvs (key k))
  put : ∀ {K : PySem.W.Frag} {H Ho : Hp} {v y : V} {k : κ} {p : Addr} {kvs : List (kt × V)}, H p = some (ho kvs) → Same Ho H → Z.D K Ho v k → kvs.length < sizeLine → DPut H p v y (upd H p (ho (@putK kt dec kvs (key k) y)))
  isd : ∀ {H : Hp} {p : Addr} {kvs : List (kt × V)}, H p = some (ho kvs) → IsD H p
instance : DKey Int where
  kt := L2.Key
  dec := inferInstance
  key i := .inl i
  inj h := by cases h; rfl
  ho := .dK
  get e _ d := by rw [d_int d]; exact DGet.k (k := .inl _) e
  put e _ d h := by rw [d_int d]; exact DPut.k (k := .inl _) e h
  isd e := .inl ⟨_, .inl e⟩
instance : DKey (Int × Int) where
  kt := List L2.Key
  dec := inferInstance
  key p := [.inl p.1, .inl p.2]
  inj h := by
    rename_i a b
    obtain ⟨a1, a2⟩ := a
    obtain ⟨b1, b2⟩ := b
    simp only [List.cons.injEq, Sum.inl.injEq, and_true] at h
    rw [h.1, h.2]
  ho := .dT
  get e s d := by
    cases d with
    | tup hs ha =>
      cases ha with
      | cons h1 h2 =>
        cases h2 with
        | cons h3 h4 =>
          cases h4
          rw [d_int h1, d_int h3] at hs
          exact DGet.t e (s _ _ hs)
  put e s d h := by
    cases d with
    | tup hs ha =>
      cases ha with
      | cons h1 h2 =>
        cases h2 with
        | cons h3 h4 =>
          cases h4
          rw [d_int h1, d_int h3] at hs
          exact DPut.t e (s _ _ hs) h
  isd e := .inr ⟨_, .inl e⟩
section
variable {K : PySem.W.Frag} {H Ho H' Ho' : Hp} {κ α γ : Type} [Py κ] [DecidableEq κ] [DKey κ] [Py α] {Φ : γ → Prop} {R : Grp} {v w u : V} {Q : VK} {σ : L2.St}

def DM (K : PySem.W.Frag) (Ho : Hp) (kvs : List (DKey.kt κ × V)) (m : Dc κ α) : Prop := kvs.map (·.1) = m.map (fun p => DKey.key p.1) ∧ DL K Ho (kvs.map (·.2)) (m.map (·.2))
theorem DM.len {kvs : List (DKey.kt κ × V)} {m : Dc κ α} (h : DM K Ho kvs m) : kvs.length = m.length := by
  have := congrArg List.length h.1
  simpa using this
theorem DM.val : ∀ {kvs : List (DKey.kt κ × V)} {m : Dc κ α}, DM K Ho kvs m → ∀ k : κ, (valM m k = none → @valV _ DKey.dec kvs (DKey.key k) = none) ∧ ∀ a, valM m k = some a → ∃ x, @valV _ DKey.dec kvs (DKey.key k) = some x ∧ Z.D K Ho x a
  | [], [], _, k => ⟨fun _ => rfl, fun a e => by cases e⟩
  | [], _ :: _, h, _ => by cases h.1
  | _ :: _, [], h, _ => by cases h.1
  | (k1, x) :: kvs, (k2, a) :: m, h, k => by
    obtain ⟨h1, h2⟩ := h
    simp only [List.map_cons, List.cons.injEq] at h1
    cases h2 with
    | cons d ds =>
      have ih := DM.val (kvs := kvs) (m := m) ⟨h1.2, ds⟩ k
      by_cases c : k2 = k
      · have e1 : valM ((k2, a) :: m) k = some a := by simp [valM, List.find?_cons, c]
        have e2 : @valV _ DKey.dec ((k1, x) :: kvs) (DKey.key k) = some x := @valV_pos _ DKey.dec (k1, x) kvs (DKey.key k) (by rw [← c]; exact h1.1)
        rw [e1, e2]
        exact ⟨fun z => (nomatch z), fun b e => ⟨x, rfl, by cases e; exact d⟩⟩
      · have e1 : valM ((k2, a) :: m) k = valM m k := by simp [valM, List.find?_cons, c]
        have e2 : @valV _ DKey.dec ((k1, x) :: kvs) (DKey.key k) = @valV _ DKey.dec kvs (DKey.key k) := @valV_neg _ DKey.dec (k1, x) kvs (DKey.key k) (fun z => c (DKey.inj (h1.1.symm.trans z)))
        rw [e1, e2]
        exact ih
theorem valM_any (k : κ) : ∀ m : Dc κ α, (m.any fun p => decide (p.1 = k)) = (valM m k).isSome
  | [] => rfl
  | p :: r => by
    rw [List.any_cons]
    by_cases e : p.1 = k
    · have : valM (p :: r) k = some p.2 := by simp [valM, List.find?_cons, e]
      rw [this, decide_eq_true e]; rfl
    · have : valM (p :: r) k = valM r k := by simp [valM, List.find?_cons, e]
      rw [this, decide_eq_false e, Bool.false_or, valM_any k r]
theorem DM.some {kvs : List (DKey.kt κ × V)} {m : Dc κ α} (h : DM K Ho kvs m) (k : κ) : (@valV _ DKey.dec kvs (DKey.key k)).isSome = (valM m k).isSome := by
  obtain ⟨h1, h2⟩ := h.val k
  cases e : valM m k with
  | none => rw [h1 e]; rfl
  | some a => obtain ⟨x, ex, _⟩ := h2 a e; rw [ex]; rfl
theorem DM.mapped {x : V} {a : α} (k : κ) (d : Z.D K Ho x a) : ∀ {kvs : List (DKey.kt κ × V)} {m : Dc κ α}, DM K Ho kvs m →
    DM K Ho (kvs.map fun kv => @ite _ (kv.1 = DKey.key k) (DKey.dec kv.1 (DKey.key k)) (kv.1, x) kv) (m.map fun p => if p.1 = k then (p.1, a) else p)
  | [], [], _ => ⟨rfl, .nil⟩
  | [], _ :: _, h => by cases h.1
  | _ :: _, [], h => by cases h.1
  | (k1, y) :: kvs, (k2, b) :: m, h => by
    obtain ⟨h1, h2⟩ := h
    simp only [List.map_cons, List.cons.injEq] at h1
    cases h2 with
    | cons e es =>
      obtain ⟨i1, i2⟩ := DM.mapped k d (kvs := kvs) (m := m) ⟨h1.2, es⟩
      by_cases c : k2 = k
      · have c' : k1 = DKey.key k := by rw [← c]; exact h1.1
        refine ⟨?_, ?_⟩
        · rw [List.map_cons, List.map_cons, List.map_cons, List.map_cons, i1, if_pos c, if_pos c']
          show k1 :: _ = DKey.key k2 :: _
          rw [h1.1]
        · rw [List.map_cons, List.map_cons, List.map_cons, List.map_cons, if_pos c, if_pos c']
          exact .cons d i2
      · have c' : ¬ k1 = DKey.key k := fun z => c (DKey.inj (h1.1.symm.trans z))
        refine ⟨?_, ?_⟩
        · rw [List.map_cons, List.map_cons, List.map_cons, List.map_cons, i1, if_neg c, if_neg c']
          show k1 :: _ = DKey.key k2 :: _
          rw [h1.1]
        · rw [List.map_cons, List.map_cons, List.map_cons, List.map_cons, if_neg c, if_neg c']
          exact .cons e i2
theorem DM.put {x : V} {a : α} {k : κ} {kvs : List (DKey.kt κ × V)} {m : Dc κ α} (h : DM K Ho kvs m) (d : Z.D K Ho x a) : DM K Ho (@putK _ DKey.dec kvs (DKey.key k) x) (putM m k a) := by
  unfold putK putM
  rw [@valV_any _ DKey.dec, valM_any, h.some k]
  split
  · exact DM.mapped k d h
  · refine ⟨?_, ?_⟩
    · rw [List.map_append, List.map_append, h.1]; rfl
    · rw [List.map_append, List.map_append]
      exact DL.push h.2 d
theorem DM.mo {kvs : List (DKey.kt κ × V)} {m : Dc κ α} (h : DM K Ho kvs m) (e : Same Ho Ho') : DM K Ho' kvs m := ⟨h.1, DL.mo h.2 e⟩
/-- a dict of its own -/
def OD (K : PySem.W.Frag) (Ho : Hp) (v : V) (m : Dc κ α) (g : Grp) : Prop := ∃ p kvs, v = .ref p ∧ DM K Ho kvs m ∧ g = [(p, DKey.ho (κ := κ) kvs)]
theorem OD.mo {m : Dc κ α} {g : Grp} (h : OD K Ho v m g) (e : Same Ho Ho') : OD K Ho' v m g := by
  obtain ⟨p, kvs, rfl, d, rfl⟩ := h
  exact ⟨p, kvs, rfl, d.mo e, rfl⟩
/-- a dict that is read -/
def BD (K : PySem.W.Frag) (R : Grp) (Ho : Hp) (v : V) (m : Dc κ α) : Prop := ∃ g, OD K Ho v m g ∧ ∀ r ∈ g, r ∈ R
theorem BD.mo {m : Dc κ α} (h : BD K R Ho v m) (e : Same Ho Ho') : BD K R Ho' v m := by
  obtain ⟨g, o, s⟩ := h
  exact ⟨g, o.mo e, s⟩
theorem BD.sub {m : Dc κ α} {R' : Grp} (h : BD K R Ho v m) (e : ∀ r ∈ R, r ∈ R') : BD K R' Ho v m := by
  obtain ⟨g, o, s⟩ := h
  exact ⟨g, o, fun r m => e r (s r m)⟩
theorem BD.rd {m : Dc κ α} (h : BD K R Ho v m) (z : Zs R H Ho) : ∃ p kvs, v = .ref p ∧ DM K Ho kvs m ∧ H p = some (DKey.ho (κ := κ) kvs) := by
  obtain ⟨g, ⟨p, kvs, rfl, d, rfl⟩, s⟩ := h
  exact ⟨p, kvs, rfl, d, (z.rt _ (s _ (List.mem_singleton.mpr rfl))).1⟩
theorem d_o {G : V → Prop} {e : Dc κ α} {g : Grp} {f : Dc κ α → W γ} (hw : (W.bind (W.ret e) f).run Φ) (z : Zs (g ++ R) H Ho) (o : OD K Ho v e g) (k : ∀ x v g, Zs (g ++ R) H Ho → OD K Ho v x g → (f x).run Φ → G v) : LetV G v := k e v g z o hw
theorem g_dnewK (z : Zs R H Ho) (k : ∀ H' v g, Zs (g ++ R) H' Ho → OD K Ho v ([] : Dc Int α) g → Q v H') : tDNewK σ H Q := fun p hp => k _ _ _ (z.root hp) ⟨p, [], rfl, ⟨rfl, .nil⟩, rfl⟩
theorem g_dnewT (z : Zs R H Ho) (k : ∀ H' v g, Zs (g ++ R) H' Ho → OD K Ho v ([] : Dc (Int × Int) α) g → Q v H') : tDNewT σ H Q := fun p hp => k _ _ _ (z.root hp) ⟨p, [], rfl, ⟨rfl, .nil⟩, rfl⟩
/-! reading -/
theorem zsl_tup {X : Cx} (hK : X.K = K) : SlR X (rSlT K) := hK ▸ sl_tup
theorem dpAll_cut {vs : List V} {ds : List PyData} (h : DqAll K H vs ds) (lo hi : Option Int) : DqAll K H (cutV vs lo hi) (Z.cut ds lo hi) := by
  unfold cutV Z.cut
  rw [dpAll_len h]
  exact dpAll_take (dpAll_drop h _) _
theorem y_slT {β δ : Type} [Py β] [Py δ] {x : β} {y : δ} {lo hi : Option Int} (d : Z.D K Ho v x) (z : Zs R H Ho) (hj : ∃ ds, toPy x = .tuple ds ∧ ¬ (HT.sIx ds.length 0 lo = 0 ∧ HT.sIx ds.length ds.length hi = ds.length) ∧ toPy y = .tuple (Z.cut ds lo hi))
    (k : ∀ p H' Ho', Same Ho Ho' → Zs R H' Ho' → Z.D K Ho' (.ref p) y → Q (.ref p) H') : rSlT K v lo hi H Q := by
  obtain ⟨ds, e1, e2, e3⟩ := hj
  have d : Dq K Ho v (toPy x) := d
  rw [e1] at d
  cases d with
  | tup hs ha =>
    refine ⟨_, _, rfl, SqT.of (z.le _ _ hs), by rw [dpAll_len ha]; exact e2, fun q hq => ?_⟩
    have nf := z.free hq
    refine k q _ _ (Same.new nf) (z.alloc hq) ?_
    show Dq K _ _ (toPy y)
    rw [e3]
    exact .tup upd_same (dpAll_mono (Same.new nf) _ _ (dpAll_cut ha lo hi))
/-! tuples of one kind, of any length -/
theorem zsl_tupA {X : Cx} (hK : X.K = K) : SlR X (rSlA K) := hK ▸ sl_tupA
theorem zop_catA {X : Cx} (hK : X.K = K) : OpR X (binaryOp .Add) (rCatA K) := hK ▸ op_catA
theorem y_slTp {β : Type} [Py β] {x : Tp β} {lo hi : Option Int} (d : Z.D K Ho v x) (z : Zs R H Ho) (k : ∀ w H' Ho', Same Ho Ho' → Zs R H' Ho' → Z.D K Ho' w (⟨Z.cut x.l lo hi⟩ : Tp β) → Q w H') : rSlA K v lo hi H Q := by
  have d0 := d
  cases d with
  | tup hs ha =>
    have hl : _ = x.l.length := (dpAll_len ha).trans (by simp)
    refine ⟨_, _, rfl, SqT.of (z.le _ _ hs), fun hw => ?_, fun hn q hq => ?_⟩
    · refine k _ _ _ (Same.refl _) z ?_
      have e : Z.cut x.l lo hi = x.l := by
        unfold Z.cut
        rw [← hl, hw.1, hw.2]
        simp [hl]
      show Z.D K Ho _ (⟨Z.cut x.l lo hi⟩ : Tp β)
      rw [e]
      exact d0
    · have nf := z.free hq
      refine k (.ref q) _ _ (Same.new nf) (z.alloc hq) ?_
      exact .tup upd_same (dpAll_mono (Same.new nf) _ _ (DL.cut (xs := x.l) ha lo hi))
theorem y_catTp {β : Type} [Py β] {x y : Tp β} (d1 : Z.D K Ho v x) (d2 : Z.D K Ho w y) (z : Zs R H Ho) (hg : x.l.length + y.l.length ≤ sizeLine) (k : ∀ u H' Ho', Same Ho Ho' → Zs R H' Ho' → Z.D K Ho' u (⟨x.l ++ y.l⟩ : Tp β) → Q u H') : rCatA K v w H Q := by
  have d1' := d1
  have d2' := d2
  obtain ⟨xs⟩ := x
  obtain ⟨ys⟩ := y
  cases d1 with
  | tup hs ha =>
    cases d2 with
    | tup hs2 ha2 =>
      have hl := dpAll_len ha
      have hl2 := dpAll_len ha2
      rw [List.length_map] at hl hl2
      refine ⟨_, _, _, _, rfl, rfl, SqT.of (z.le _ _ hs), SqT.of (z.le _ _ hs2), by rw [hl, hl2]; exact hg, fun e => ?_, fun _ e => ?_, fun _ _ q hq => ?_⟩
      · refine k _ _ _ (Same.refl _) z ?_
        have : xs = [] := List.length_eq_zero_iff.mp (by rw [← hl, e]; rfl)
        subst this
        exact d2'
      · refine k _ _ _ (Same.refl _) z ?_
        have : ys = [] := List.length_eq_zero_iff.mp (by rw [← hl2, e]; rfl)
        subst this
        show Z.D K Ho _ (⟨xs ++ []⟩ : Tp β)
        rw [List.append_nil]
        exact d1'
      · have nf := z.free hq
        refine k (.ref q) _ _ (Same.new nf) (z.alloc hq) ?_
        exact .tup upd_same (dpAll_mono (Same.new nf) _ _ (DL.append (xs := xs) (ys := ys) ha ha2))
def tp4 {β : Type} : Tp β → Option (P4 β β β β)
  | ⟨[a, b, c, d]⟩ => some ⟨a, b, c, d⟩
  | _ => none
theorem y_tp4 {β : Type} [Py β] {x : Tp β} {f : P4 β β β β → W γ} {P : Prop} (d : Z.D K Ho v x) (hw : (W.bind (W.opt (tp4 x)) f).run Φ) (k : ∀ t, Z.D K Ho v t → (f t).run Φ → P) : P := by
  obtain ⟨t, et, hw⟩ := hw
  refine k t ?_ hw
  obtain ⟨l⟩ := x
  match l, et with
  | [a, b, c, e], rfl => exact d
theorem zmt_indexD {X : Cx} (hK : X.K = K) (hu : X.A.units + 65 < cLine) : MtR X "list.index" (rIndexD K) := hK ▸ mt_indexD hu
/-- the first place of an equal one -/
def idxD {β : Type} [Py β] (x : β) (ys : List β) : Option Int := Option.map (fun n : Nat => (n : Int)) (ys.findIdx? fun y => eqD y x)
theorem d_ref {β : Type} [Py β] {ys : List β} : ∀ {v : V}, Z.D K H v ys → ∃ a, v = .ref a := fun {v} h => by
  obtain ⟨p, vs, e, _⟩ := LV.of (rs := []) h
  exact ⟨p, e⟩
theorem y_index {β : Type} [Py β] {x : β} {ys : List β} {f : Int → W γ} (d1 : Z.D K H w x) (d2 : Z.D K H v ys) (hg : okD x ∧ okD ys) (hw : (W.bind (W.opt (idxD x ys)) f).run Φ) (k : ∀ t, (f t).run Φ → Q (.int t) H) : rIndexD K v [w] H Q := by
  obtain ⟨t, et, hw⟩ := hw
  unfold idxD at et
  rw [Option.map_eq_some_iff] at et
  obtain ⟨n, en, rfl⟩ := et
  obtain ⟨hn, h1, h2⟩ := List.findIdx?_eq_some_iff_getElem.mp en
  obtain ⟨a, rfl⟩ := d_ref d2
  refine ⟨a, w, toPy x, ys.map Py.toPy, n, toPy ys[n], rfl, rfl, Dq.dp _ _ (shp hg.2) d2, Dq.dp _ _ (shp hg.1) d1, hg.2, hg.1, by rw [List.getElem?_map, List.getElem?_eq_getElem hn]; rfl, h1, fun m z' hm e => ?_, k n hw⟩
  rw [List.getElem?_map, List.getElem?_eq_getElem (by omega)] at e
  cases e
  simpa [eqD] using h2 m hm
def GGet (Q : VK) (x y : V) (H : Hp) : Prop := ∃ a v, x = .ref a ∧ DGet H a y (some v) ∧ Q v H
def GIn (Q : VK) (x y : V) (H : Hp) : Prop := ∃ a o, x = .ref a ∧ DGet H a y o ∧ Q (.bl o.isSome) H
def GNotIn (Q : VK) (x y : V) (H : Hp) : Prop := ∃ a o, x = .ref a ∧ DGet H a y o ∧ Q (.bl (!o.isSome)) H
def GGet1 (Q : VK) (a : Addr) (y : V) (H : Hp) : Prop := ∃ o, DGet H a y o ∧ Q (o.getD .non) H
def GGet2 (Q : VK) (a : Addr) (y z : V) (H : Hp) : Prop := ∃ o, DGet H a y o ∧ Q (o.getD z) H
def GPut (N : Hp → Prop) (x y v : V) (H : Hp) : Prop := ∃ a H4, x = .ref a ∧ DPut H a y v H4 ∧ N H4
section
variable {td ty tx tv : TE} {un : TS} {D : Ends}
theorem y_dget (k : td σ H fun x H1 => ty σ H1 fun y H2 => GGet Q x y H2) : tDGet td ty σ H Q := k
theorem y_din (k : ty σ H fun y H1 => td σ H1 fun x H2 => GIn Q x y H2) : tDIn ty td σ H Q := k
theorem y_dnotin (k : ty σ H fun y H1 => td σ H1 fun x H2 => GNotIn Q x y H2) : tDNotIn ty td σ H Q := k
theorem y_dget1 (k : td σ H fun x H1 => ∃ a, x = .ref a ∧ IsD H1 a ∧ ty σ H1 fun y H2 => GGet1 Q a y H2) : tDGet1 td ty σ H Q := k
theorem y_dget2 (k : td σ H fun x H1 => ∃ a, x = .ref a ∧ IsD H1 a ∧ ty σ H1 fun y H2 => tx σ H2 fun z H3 => GGet2 Q a y z H3) : tDGet2 td ty tx σ H Q := k
theorem y_dput (k : tv σ H fun v H1 => td σ H1 fun x H2 => ty σ H2 fun y H3 => GPut (fun H4 => un D σ H4) x y v H3) : tSeq (sDPut td ty tv) un D σ H := k
end
theorem g_dget {m : Dc κ α} {k : κ} {f : α → W γ} (b : BD K R Ho v m) (z : Zs R H Ho) (dk : Z.D K Ho w k) (hw : (W.bind (W.opt (valM m k)) f).run Φ) (kk : ∀ t u, Z.D K Ho u t → (f t).run Φ → Q u H) : GGet Q v w H := by
  obtain ⟨p, kvs, rfl, d, e⟩ := b.rd z
  obtain ⟨a, ea, hw⟩ := hw
  obtain ⟨x, ex, dx⟩ := (d.val k).2 a ea
  exact ⟨p, x, rfl, ex ▸ DKey.get e z.le dk, kk a x dx hw⟩
theorem g_din {m : Dc κ α} {k : κ} (b : BD K R Ho v m) (z : Zs R H Ho) (dk : Z.D K Ho w k) (kk : Q (.bl (valM m k).isSome) H) : GIn Q v w H := by
  obtain ⟨p, kvs, rfl, d, e⟩ := b.rd z
  exact ⟨p, _, rfl, DKey.get e z.le dk, by rw [d.some k]; exact kk⟩
theorem g_dnotin {m : Dc κ α} {k : κ} (b : BD K R Ho v m) (z : Zs R H Ho) (dk : Z.D K Ho w k) (kk : Q (.bl (!(valM m k).isSome)) H) : GNotIn Q v w H := by
  obtain ⟨p, kvs, rfl, d, e⟩ := b.rd z
  exact ⟨p, _, rfl, DKey.get e z.le dk, by rw [d.some k]; exact kk⟩
theorem g_isd {m : Dc κ α} {P : Addr → Prop} (b : BD K R Ho v m) (z : Zs R H Ho) (kk : ∀ a, v = .ref a → P a) : ∃ a, v = .ref a ∧ IsD H a ∧ P a := by
  obtain ⟨p, kvs, rfl, d, e⟩ := b.rd z
  exact ⟨p, rfl, DKey.isd e, kk p rfl⟩
theorem g_dget1 {m : Dc κ α} {k : κ} {a : Addr} (ea : v = .ref a) (b : BD K R Ho v m) (z : Zs R H Ho) (dk : Z.D K Ho w k) (kk : ∀ u, Z.D K Ho u (valM m k) → Q u H) : GGet1 Q a w H := by
  obtain ⟨p, kvs, e1, d, e⟩ := b.rd z
  rw [ea] at e1
  cases e1
  refine ⟨_, DKey.get e z.le dk, kk _ ?_⟩
  obtain ⟨h1, h2⟩ := d.val k
  cases q : valM m k with
  | none => rw [h1 q]; exact .non
  | some x => obtain ⟨y, ey, dy⟩ := h2 x q; rw [ey]; exact dy
theorem g_dget2 {m : Dc κ α} {k : κ} {a : Addr} {x : α} (ea : v = .ref a) (b : BD K R Ho v m) (z : Zs R H Ho) (dk : Z.D K Ho w k) (dx : Z.D K Ho u x) (kk : ∀ y, Z.D K Ho y ((valM m k).getD x) → Q y H) : GGet2 Q a w u H := by
  obtain ⟨p, kvs, e1, d, e⟩ := b.rd z
  rw [ea] at e1
  cases e1
  refine ⟨_, DKey.get e z.le dk, kk _ ?_⟩
  obtain ⟨h1, h2⟩ := d.val k
  cases q : valM m k with
  | none => rw [h1 q]; exact dx
  | some x => obtain ⟨y, ey, dy⟩ := h2 x q; rw [ey]; exact dy
theorem g_dput {m : Dc κ α} {k : κ} {x : α} {g : Grp} {N : Hp → Prop} {f : Dc κ α → W γ} (z : Zs (g ++ R) H Ho) (o : OD K Ho v m g) (dk : Z.D K Ho w k) (dx : Z.D K Ho u x) (hw : (W.bind (putG m k x) f).run Φ) (kk : ∀ m' g' H', Zs (g' ++ R) H' Ho → OD K Ho v m' g' → (f m').run Φ → N H') : GPut N v w u H := by
  obtain ⟨p, kvs, rfl, d, rfl⟩ := o
  obtain ⟨hl, hw⟩ := hw
  exact ⟨p, _, rfl, DKey.put z.head z.le dk (by rw [d.len]; exact hl), kk _ _ _ (z.put (hn := DKey.nt _)) ⟨p, _, rfl, d.put dx, rfl⟩ hw⟩
end
end Z

/-! # d.setdefault(k, v), k a tuple -/
namespace Z
open PySem PySem.Spec PyProof.Rows L2
section
variable {X : Cx} {pins : List (Addr × Obj)} {σ : L2.St} {H : Hp} {s : Shared} {a b : Addr} {kvs : List (List L2.Key × V)} {k : List L2.Key} {z : V} {r : Value} {A : Around} {E : Value → Shared → Prop}
theorem d_setdT {Q : Value → Shared → Prop} (hu : A.units + 1 < cLine) (I : Inv X pins σ H s) (e : H a = some (.dT kvs)) (eb : H b = some (.tup (k.map kV))) (l : kvs.length < sizeLine) (rz : RelV z r)
    (h1 : ∀ u w' s', valV kvs k = some u → RelV u w' → Inv X pins σ H s' → Q w' s') (h2 : valV kvs k = none → ∀ s', Inv X pins σ (upd H a (.dT (putK kvs k z))) s' → Q r s') :
    wpAny (model X.prog X.w) A (call (.builtin "dict.setdefault") [.ref a, .ref b, r]) Q E s := by
  obtain ⟨zz, hd, xs, rel, dd⟩ := dt_of I.hok e
  have hz : xs.length ≤ sizeLine := by rw [← Paired.length rel]; exact zz
  have hl : (putK kvs k z).length ≤ sizeLine := by have := length_putK kvs k z; omega
  have rv := rel.val k
  refine call_setdefault_heap (hsz := hz) (tupleKind_room_in1 hu) (key_of I.hok eb) hd dd (fun p hp => ?_) (fun hn h' dd' hs => ?_)
  · rw [hp] at rv
    cases hv : valV kvs k with
    | none => rw [hv] at rv; cases rv
    | some u =>
      rw [hv] at rv
      obtain ⟨w', hw, rw'⟩ := RelO.some_of (v := u) (o := some p.2) rv
      cases hw
      exact h1 u _ _ hv rw' (I.tok _)
  · rw [hn] at rv
    cases hv : valV kvs k with
    | some u =>
      rw [hv] at rv
      obtain ⟨w', hw, _⟩ := RelO.some_of (v := u) (o := none) rv
      cases hw
    | none =>
      refine h2 hv _ ?_
      obtain ⟨q, es, ep, hq, g2, g3, g4, _, g5⟩ := dd'
      refine d_write I (by rw [e]; exact True.intro) hs ⟨q, hq⟩ ⟨hl, hd, _, (rel.put k eb rz).keeps fun c ys ec => ?_, q, es, ep, hq, g2, g3, g4, g5⟩
      rw [upd_ne (ne_of ec e (fun z => nomatch z))]
      exact ec
def tDSetd (td ty tx : TE) : TE := fun σ H Q => td σ H fun x H1 => ∃ a, x = .ref a ∧ IsD H1 a ∧ ty σ H1 fun y H2 => tx σ H2 fun z H3 => ∃ kvs k b, H3 a = some (.dT kvs) ∧ y = .ref b ∧ H3 b = some (.tup (k.map kV)) ∧ kvs.length < sizeLine ∧
  (∀ u, valV kvs k = some u → Q u H3) ∧ (valV kvs k = none → Q z (upd H3 a (.dT (putK kvs k z))))
theorem pe_dsetd {o e f : Expr} {apos cpos : Pos} {td ty tx : TE} (hu : X.A.units + 1 < cLine) (ho : PE X o td) (he : PE X e ty) (hf : PE X f tx) (m : M2 X o "setdefault" apos e f cpos) : PE X (.Call (.Attribute o "setdefault" apos) [e, f] [] cpos) (tDSetd td ty tx) := by
  refine ⟨fun pins s σ H Q I h => ?_⟩
  refine wpAny_Call_method m.base m.few m.line PySem.F.plainAttrs_dict PySem.F.slot_dict_setdefault PySem.F.type_dict_setdefault (thn (ho.run pins s σ H _ I h) fun u s1 ⟨x, H1, I1, rx, a, ex, d, q1⟩ => ?_)
  subst ex
  obtain rfl : u = Value.ref a := rx
  obtain ⟨t1, t2, _⟩ := isD_at I1 d
  refine ⟨t1, t2, ?_⟩
  rw [m.trees]
  refine Calls.callWith_builtin rfl (Calls.evalArgs_plain (Calls.spliced_cons (thn (he.run pins s1 σ H1 _ I1 q1) fun iv s2 ⟨y, H2, I2, ry, q2⟩ =>
    Calls.spliced_cons (thn (hf.run pins s2 σ H2 _ I2 q2) fun fv s3 ⟨z, H3, I3, rz, kvs, k, b, e1, ey, eb, hl, g1, g2⟩ => Calls.spliced_nil ?_))))
  subst ey
  cases (show iv = Value.ref b from ry)
  exact d_setdT hu I3 e1 eb hl rz (fun u w' s4 hv rw' I4 => ⟨u, H3, I4, rw', g1 u hv⟩) fun hv s4 I4 => ⟨z, _, I4, rz, g2 hv⟩
end
end Z

/-! # a dict of its own whose values are lists of its own -/
namespace Z
open PySem L2
section
variable {K : PySem.W.Frag} {H Ho H' Ho' : Hp} {κ α γ : Type} [Py κ] [DecidableEq κ] [DKey κ] [Py α] {Φ : γ → Prop} {R : Grp} {v w u : V} {Q : VK} {σ : L2.St}
/-- an entry: the key, the list's place, what it holds -/
abbrev Ent (κ : Type) [Py κ] [DKey κ] := DKey.kt κ × (Addr × List V)
inductive EM (K : PySem.W.Frag) (Ho : Hp) : List (Ent κ) → Dc κ (List α) → Prop
  | nil : EM K Ho [] []
  | cons {e : Ent κ} {es : List (Ent κ)} {k : κ} {xs : List α} {m : Dc κ (List α)} (hk : e.1 = DKey.key k) (d : DL K Ho e.2.2 xs) (hn : valM m k = none) (h : EM K Ho es m) : EM K Ho (e :: es) ((k, xs) :: m)
def rowsE (es : List (Ent κ)) : Grp := es.map fun e => (e.2.1, HO.lst e.2.2)
def kvsE (es : List (Ent κ)) : List (DKey.kt κ × V) := es.map fun e => (e.1, V.ref e.2.1)
theorem EM.mo {es : List (Ent κ)} {m : Dc κ (List α)} (h : EM K Ho es m) (e : Same Ho Ho') : EM K Ho' es m := by
  induction h with
  | nil => exact .nil
  | cons hk d hn _ ih => exact .cons hk (DL.mo d e) hn ih
theorem EM.len {es : List (Ent κ)} {m : Dc κ (List α)} (h : EM K Ho es m) : es.length = m.length := by
  induction h with
  | nil => rfl
  | cons _ _ _ _ ih => simp [ih]
theorem valM_put' {k j : κ} {a : α} : ∀ {m : Dc κ α}, valM m j = none → j ≠ k → valM (m.map fun p => if p.1 = k then (p.1, a) else p) j = none
  | [], _, _ => rfl
  | (q, b) :: m, h, hne => by
    by_cases c : q = j
    · simp [valM, c] at h
    · have hm : valM m j = none := by simpa [valM, c] using h
      have ih := valM_put' (a := a) hm hne
      rw [List.map_cons]
      by_cases d : q = k
      · rw [if_pos d]
        simpa [valM, c] using ih
      · rw [if_neg d]
        simpa [valM, c] using ih
theorem map_none {k : κ} {a : α} : ∀ {m : Dc κ α}, valM m k = none → (m.map fun p => if p.1 = k then (p.1, a) else p) = m
  | [], _ => rfl
  | (q, b) :: m, h => by
    by_cases c : q = k
    · simp [valM, c] at h
    · have hm : valM m k = none := by simpa [valM, c] using h
      rw [List.map_cons, if_neg c, map_none hm]
theorem valM_app {k j : κ} {a : α} : ∀ {m : Dc κ α}, valM m j = none → j ≠ k → valM (m ++ [(k, a)]) j = none
  | [], _, hne => by
    have : ¬ k = j := fun e => hne e.symm
    simp [valM, this]
  | (q, b) :: m, h, hne => by
    by_cases c : q = j
    · simp [valM, c] at h
    · have hm : valM m j = none := by simpa [valM, c] using h
      have ih := valM_app (a := a) hm hne
      rw [List.cons_append]
      simpa [valM, c] using ih
/-- a new entry -/
theorem EM.snoc {es : List (Ent κ)} {m : Dc κ (List α)} (h : EM K Ho es m) {k : κ} (hn : valM m k = none) (q : Addr) : EM K Ho (es ++ [(DKey.key k, q, [])]) (m ++ [(k, [])]) := by
  induction h with
  | nil => exact .cons rfl .nil rfl .nil
  | @cons e es k1 xs m hk d h0 h ih =>
    have c : k1 ≠ k := fun c => by simp [valM, c] at hn
    have hm : valM m k = none := by simpa [valM, c] using hn
    exact .cons hk d (valM_app h0 c) (ih hm)
/-- all lists stand for good from now on -/
theorem EM.fr {es : List (Ent κ)} {m : Dc κ (List α)} (h : EM K Ho es m) : ∀ {R : Grp}, Zs (rowsE es ++ R) H Ho → ∃ Ho', Same Ho Ho' ∧ Zs R H Ho' ∧ DL K Ho' ((kvsE es).map (·.2)) (m.map (·.2)) := by
  induction h with
  | nil => exact fun z => ⟨Ho, Same.refl _, z, .nil⟩
  | @cons e es k xs m hk d hn h ih =>
    intro R z
    have z1 : Zs ((e.2.1, HO.lst e.2.2) :: (rowsE es ++ R)) H Ho := z
    have z2 : Zs (rowsE es ++ ((e.2.1, HO.lst e.2.2) :: R)) H Ho := z1.perm List.perm_middle.symm
    obtain ⟨Ho1, s1, z3, d1⟩ := ih z2
    obtain ⟨Ho2, s2, z4, d2⟩ := OL.fr (R := R) (OL.mk (p := e.2.1) (DL.mo d s1)) z3
    exact ⟨Ho2, s1.trans s2, z4, .cons d2 (DL.mo d1 s2)⟩
/-- the entry of a key -/
theorem EM.val {es : List (Ent κ)} {m : Dc κ (List α)} (h : EM K Ho es m) (k : κ) : (valM m k = none ∧ @valV _ DKey.dec (kvsE es) (DKey.key k) = none) ∨
    ∃ (i : Nat) (e : Ent κ) (xs : List α), es[i]? = some e ∧ valM m k = some xs ∧ @valV _ DKey.dec (kvsE es) (DKey.key k) = some (.ref e.2.1) ∧ DL K Ho e.2.2 xs ∧
      ∀ (w : V) (x : α), Z.D K Ho w x → EM K Ho (es.set i (e.1, e.2.1, e.2.2 ++ [w])) (putM m k (xs ++ [x])) := by
  induction h with
  | nil => exact .inl ⟨rfl, rfl⟩
  | @cons e es k1 xs m hk d hn h ih =>
    by_cases c : k1 = k
    · subst c
      refine .inr ⟨0, e, xs, rfl, by simp [valM], ?_, d, fun w x dw => ?_⟩
      · exact @valV_pos _ DKey.dec (e.1, V.ref e.2.1) (kvsE es) (DKey.key k1) hk
      · have hm : putM ((k1, xs) :: m) k1 (xs ++ [x]) = (k1, xs ++ [x]) :: m := by
          unfold putM
          rw [List.any_cons, decide_eq_true rfl, Bool.true_or, if_pos rfl, List.map_cons, if_pos rfl, map_none hn]
        rw [hm]
        exact .cons hk (DL.push d dw) hn h
    · have e1 : ∀ {m : Dc κ (List α)}, valM ((k1, xs) :: m) k = valM m k := by intro m; simp [valM, c]
      have e2 : @valV _ DKey.dec (kvsE (e :: es)) (DKey.key k) = @valV _ DKey.dec (kvsE es) (DKey.key k) := @valV_neg _ DKey.dec (e.1, V.ref e.2.1) (kvsE es) (DKey.key k) (fun z => c (DKey.inj (hk.symm.trans z)))
      rcases ih with ⟨a, b⟩ | ⟨i, e', ys, g1, g2, g3, g4, g5⟩
      · exact .inl ⟨e1.trans a, e2.trans b⟩
      · refine .inr ⟨i + 1, e', ys, g1, e1.trans g2, e2.trans g3, g4, fun w x dw => ?_⟩
        have hm : putM ((k1, xs) :: m) k (ys ++ [x]) = (k1, xs) :: putM m k (ys ++ [x]) := by
          have ha : (m.any fun p => decide (p.1 = k)) = true := by rw [valM_any, g2]; rfl
          unfold putM
          rw [List.any_cons, ha, Bool.or_true, if_pos rfl, if_pos rfl, List.map_cons, if_neg c]
        rw [hm]
        refine .cons hk d ?_ (g5 w x dw)
        have ha : (m.any fun p => decide (p.1 = k)) = true := by rw [valM_any, g2]; rfl
        unfold putM
        rw [if_pos ha]
        exact valM_put' hn c
/-- a dict of its own, its values lists of its own -/
def OT (K : PySem.W.Frag) (Ho : Hp) (v : V) (m : Dc κ (List α)) (g : Grp) : Prop := ∃ p es, v = .ref p ∧ EM K Ho es m ∧ g = (p, DKey.ho (κ := κ) (kvsE es)) :: rowsE es
theorem OT.mo {m : Dc κ (List α)} {g : Grp} (h : OT K Ho v m g) (e : Same Ho Ho') : OT K Ho' v m g := by
  obtain ⟨p, es, rfl, d, rfl⟩ := h
  exact ⟨p, es, rfl, d.mo e, rfl⟩
theorem EM.keys {es : List (Ent κ)} {m : Dc κ (List α)} (h : EM K Ho es m) : (kvsE es).map (·.1) = m.map fun p => DKey.key p.1 := by
  induction h with
  | nil => rfl
  | cons hk _ _ _ ih => unfold kvsE at ih ⊢; rw [List.map_cons, List.map_cons, List.map_cons, ih, hk]
/-- its lists stand for good from now on -/
theorem OT.fr {m : Dc κ (List α)} {g : Grp} (h : OT K Ho v m g) (z : Zs (g ++ R) H Ho) : ∃ Ho' g', Same Ho Ho' ∧ Zs (g' ++ R) H Ho' ∧ OD K Ho' v m g' := by
  obtain ⟨p, es, rfl, d, rfl⟩ := h
  have z1 : Zs ((p, DKey.ho (κ := κ) (kvsE es)) :: (rowsE es ++ R)) H Ho := z
  obtain ⟨Ho', s, z2, dl⟩ := d.fr (z1.perm List.perm_middle.symm)
  exact ⟨Ho', [(p, DKey.ho (κ := κ) (kvsE es))], s, z2, p, kvsE es, rfl, ⟨d.keys, dl⟩, rfl⟩
/-- where the list of a key stands -/
def OTat (K : PySem.W.Frag) (Ho : Hp) (v : V) (m : Dc κ (List α)) (k : κ) (u : V) (g : Grp) : Prop := ∃ p es, v = .ref p ∧ EM K Ho es m ∧ g = (p, DKey.ho (κ := κ) (kvsE es)) :: rowsE es ∧ @valV _ DKey.dec (kvsE es) (DKey.key k) = some u
theorem OTat.mo {m : Dc κ (List α)} {k : κ} {g : Grp} (h : OTat K Ho v m k u g) (e : Same Ho Ho') : OTat K Ho' v m k u g := by
  obtain ⟨p, es, rfl, d, rfl, hv⟩ := h
  exact ⟨p, es, rfl, d.mo e, rfl, hv⟩
theorem EM.at {es : List (Ent κ)} {m : Dc κ (List α)} {p : Addr} {k : κ} (h : EM K Ho es m) (hs : (valM m k).isSome = true) : ∃ e : Ent κ, @valV _ DKey.dec (kvsE es) (DKey.key k) = some (.ref e.2.1) ∧ OTat K Ho (.ref p) m k (.ref e.2.1) ((p, DKey.ho (κ := κ) (kvsE es)) :: rowsE es) := by
  rcases h.val k with ⟨a, _⟩ | ⟨i, e, xs, g1, g2, g3, g4, g5⟩
  · rw [a] at hs; cases hs
  · exact ⟨e, g3, p, es, rfl, h, rfl, g3⟩
theorem row_at {es : List (Ent κ)} {i : Nat} {e : Ent κ} {p : Addr} (g1 : es[i]? = some e) : (((p, DKey.ho (κ := κ) (kvsE es)) :: rowsE es) ++ R)[i + 1]? = some (e.2.1, HO.lst e.2.2) := by
  have hi := (List.getElem?_eq_some_iff.mp g1).1
  show (rowsE es ++ R)[i]? = _
  rw [List.getElem?_append_left (by unfold rowsE; rw [List.length_map]; exact hi)]
  unfold rowsE
  rw [List.getElem?_map, g1]
  rfl
theorem g_tyAt {P : Prop} {m : Dc κ (List α)} {k : κ} {g : Grp} (z : Zs (g ++ R) H Ho) (o : OTat K Ho v m k u g) (kk : P) : tyV K "list" u H ∧ P := by
  obtain ⟨p, es, rfl, h, rfl, hv⟩ := o
  rcases h.val k with ⟨_, c⟩ | ⟨i, e, xs, g1, g2, g3, g4, g5⟩
  · rw [c] at hv; cases hv
  · have : u = .ref e.2.1 := Option.some.inj (hv.symm.trans g3)
    subst this
    exact ⟨.inl ⟨rfl, _, SqL.of (z.rt _ (List.mem_of_getElem? (row_at g1))).1⟩, kk⟩
theorem g_isdT {m : Dc κ (List α)} {g : Grp} {P : Addr → Prop} (z : Zs (g ++ R) H Ho) (o : OT K Ho v m g) (kk : ∀ a, v = .ref a → P a) : ∃ a, v = .ref a ∧ IsD H a ∧ P a := by
  obtain ⟨p, es, rfl, h, rfl⟩ := o
  exact ⟨p, rfl, DKey.isd (z.rt _ List.mem_cons_self).1, kk p rfl⟩
theorem g_appAt {m : Dc κ (List α)} {k : κ} {x : α} {g : Grp} (z : Zs (g ++ R) H Ho) (o : OTat K Ho v m k u g) (dx : Z.D K Ho w x) (hl : ∀ xs, valM m k = some xs → xs.length < sizeLine) (kk : ∀ m' g' H', (∀ xs, valM m k = some xs → m' = putM m k (xs ++ [x])) → Zs (g' ++ R) H' Ho → OT K Ho v m' g' → Q .non H') : rAppend u [w] H Q := by
  obtain ⟨p, es, rfl, h, rfl, hv⟩ := o
  rcases h.val k with ⟨_, c⟩ | ⟨i, e, xs, g1, g2, g3, g4, g5⟩
  · rw [c] at hv; cases hv
  have hu : u = .ref e.2.1 := Option.some.inj (hv.symm.trans g3)
  subst hu
  have hr : (((p, DKey.ho (κ := κ) (kvsE es)) :: rowsE es) ++ R)[i + 1]? = some (e.2.1, HO.lst e.2.2) := by
    have hi := (List.getElem?_eq_some_iff.mp g1).1
    show (rowsE es ++ R)[i]? = _
    rw [List.getElem?_append_left (by unfold rowsE; rw [List.length_map]; exact hi)]
    unfold rowsE
    rw [List.getElem?_map, g1]
    rfl
  refine ⟨e.2.1, e.2.2, w, rfl, rfl, (z.rt _ (List.mem_of_getElem? hr)).1, by rw [DL.len g4]; exact hl xs g2, ?_⟩
  have z2 := z.putI (o' := HO.lst (e.2.2 ++ [w])) hr
  refine kk (putM m k (xs ++ [x])) (((p, DKey.ho (κ := κ) (kvsE (es.set i (e.1, e.2.1, e.2.2 ++ [w]))))) :: rowsE (es.set i (e.1, e.2.1, e.2.2 ++ [w]))) _ (fun ys hy => by rw [g2] at hy; cases hy; rfl) ?_ ⟨p, _, rfl, g5 w x dx, rfl⟩
  have e1 : kvsE (es.set i (e.1, e.2.1, e.2.2 ++ [w])) = kvsE es := by
    unfold kvsE
    rw [List.map_set]
    apply List.ext_getElem?
    intro j
    rw [List.getElem?_set]
    split
    · rename_i c
      subst c
      split
      · rw [List.getElem?_map, g1]; rfl
      · rename_i c
        rw [List.getElem?_eq_none (by omega)]
    · rfl
  have e2 : rowsE (es.set i (e.1, e.2.1, e.2.2 ++ [w])) = (rowsE es).set i (e.2.1, HO.lst (e.2.2 ++ [w])) := by
    unfold rowsE
    rw [List.map_set]
  rw [e1, e2]
  have hi := (List.getElem?_eq_some_iff.mp g1).1
  have e3 : (((p, DKey.ho (κ := κ) (kvsE es)) :: rowsE es) ++ R).set (i + 1) (e.2.1, HO.lst (e.2.2 ++ [w])) = ((p, DKey.ho (κ := κ) (kvsE es)) :: (rowsE es).set i (e.2.1, HO.lst (e.2.2 ++ [w]))) ++ R := by
    show _ :: (rowsE es ++ R).set i _ = _ :: ((rowsE es).set i _ ++ R)
    rw [List.set_append_left _ _ (by unfold rowsE; rw [List.length_map]; exact hi)]
  rw [← e3]
  exact z2
/-- d.setdefault(k, []) -/
def setd (m : Dc κ (List α)) (k : κ) : Dc κ (List α) := if (valM m k).isSome = true then m else m ++ [(k, [])]
theorem valM_new {k : κ} {a : List α} : ∀ {m : Dc κ (List α)}, valM m k = none → valM (m ++ [(k, a)]) k = some a
  | [], _ => by simp [valM]
  | (q, b) :: m, h => by
    by_cases c : q = k
    · simp [valM, c] at h
    · have hm : valM m k = none := by simpa [valM, c] using h
      have ih := valM_new (a := a) hm
      rw [List.cons_append]
      simpa [valM, c] using ih
theorem dkT {k : Int × Int} (d : Z.D K Ho w k) : ∃ b, w = .ref b ∧ Ho b = some (.tup ((DKey.key k : List L2.Key).map kV)) := by
  cases d with
  | tup hs ha =>
    cases ha with
    | cons h1 h2 =>
      cases h2 with
      | cons h3 h4 =>
        cases h4
        rw [d_int h1, d_int h3] at hs
        exact ⟨_, rfl, hs⟩
end
section
variable {K : PySem.W.Frag} {H Ho : Hp} {α : Type} [Py α] {R : Grp} {v w : V} {Q : VK}
def GSetd (Q : VK) (a : Addr) (y z : V) (H : Hp) : Prop := ∃ kvs k b, H a = some (.dT kvs) ∧ y = .ref b ∧ H b = some (.tup (k.map kV)) ∧ kvs.length < sizeLine ∧
  (∀ u, valV kvs k = some u → Q u H) ∧ (valV kvs k = none → Q z (upd H a (.dT (putK kvs k z))))
theorem g_setd {m : Dc (Int × Int) (List α)} {k : Int × Int} {g : Grp} {a q : Addr} (ea : v = .ref a) (z : Zs ([(q, HO.lst [])] ++ (g ++ R)) H Ho) (o : OT K Ho v m g) (dk : Z.D K Ho w k) (hl : m.length < sizeLine)
    (kk : ∀ u g' H', Zs (g' ++ R) H' Ho → OTat K Ho v (setd m k) k u g' → Q u H') : GSetd Q a w (.ref q) H := by
  obtain ⟨p, es, e1, h, rfl⟩ := o
  rw [ea] at e1
  cases e1
  subst ea
  obtain ⟨b, rfl, hb⟩ := dkT dk
  have z0 : Zs ((q, HO.lst []) :: (a, HO.dT (kvsE es)) :: (rowsE es ++ R)) H Ho := z
  refine ⟨kvsE es, DKey.key k, b, (z0.rt _ (List.mem_cons_of_mem _ List.mem_cons_self)).1, rfl, z.le _ _ hb, ?_, fun u hu => ?_, fun hn => ?_⟩
  · unfold kvsE; rw [List.length_map, h.len]; exact hl
  · have hs : (valM m k).isSome = true := by
      rcases h.val k with ⟨_, c⟩ | ⟨i, e, xs, _, c, _⟩
      · have : (none : Option V) = some u := c.symm.trans hu
        cases this
      · rw [c]; rfl
    have es' : setd m k = m := if_pos hs
    obtain ⟨e, he, ha⟩ := EM.at (p := a) h hs
    have hue : u = .ref e.2.1 := Option.some.inj (hu.symm.trans he)
    rw [hue]
    exact kk _ _ _ (Zs.tail z0) (by rw [es']; exact ha)
  · have hs : valM m k = none := by
      rcases h.val k with ⟨c, _⟩ | ⟨i, e, xs, _, _, c, _⟩
      · exact c
      · have : (some (V.ref e.2.1) : Option V) = none := c.symm.trans hn
        cases this
    have es' : setd m k = m ++ [(k, [])] := if_neg (by rw [hs]; exact Bool.false_ne_true)
    have h' := h.snoc hs q
    have hp : putK (κ := List L2.Key) (kvsE es) (DKey.key k : List L2.Key) (.ref q) = kvsE (es ++ [((DKey.key k : List L2.Key), q, [])]) := by
      rw [putK_new _ hn]
      unfold kvsE
      rw [List.map_append]
      rfl
    rw [hp]
    obtain ⟨e, he, ha⟩ := EM.at (p := a) (k := k) h' (by rw [valM_new hs]; rfl)
    have z1 : Zs ((a, HO.dT (kvsE es)) :: ((rowsE es ++ [(q, HO.lst [])]) ++ R)) H Ho := z0.perm (by
      refine (List.Perm.swap _ _ _).trans (List.Perm.cons _ ?_)
      rw [List.append_assoc]
      exact List.perm_middle.symm)
    have z2 := z1.put (o' := HO.dT (kvsE (es ++ [((DKey.key k : List L2.Key), q, [])])))
    have hr : rowsE (es ++ [((DKey.key k : List L2.Key), q, [])]) = rowsE es ++ [(q, HO.lst [])] := by unfold rowsE; rw [List.map_append]; rfl
    have hq : e.2.1 = q := by
      have hv : valV (κ := List L2.Key) (kvsE (es ++ [((DKey.key k : List L2.Key), q, [])])) (DKey.key k : List L2.Key) = some (.ref q) := by
        rw [← hp, valV_put, if_pos rfl]
      have := Option.some.inj (he.symm.trans hv)
      cases this; rfl
    rw [hq] at ha
    refine kk _ _ _ ?_ (by rw [es']; exact ha)
    rw [hr]
    exact z2
variable {td ty tx : TE} {σ : L2.St} {γ : Type} {Φ : γ → Prop}
theorem y_dsetd (k : td σ H fun x H1 => ∃ a, x = .ref a ∧ IsD H1 a ∧ ty σ H1 fun y H2 => tx σ H2 fun z H3 => GSetd Q a y z H3) : tDSetd td ty tx σ H Q := k
theorem g_dnewTo (z : Zs R H Ho) (k : ∀ H' v g, Zs (g ++ R) H' Ho → OT K Ho v ([] : Dc (Int × Int) (List α)) g → Q v H') : tDNewT σ H Q := fun p hp => k _ _ _ (z.root hp) ⟨p, [], rfl, .nil, rfl⟩
theorem t_o {G : V → Prop} {e : Dc (Int × Int) (List α)} {g : Grp} {f : Dc (Int × Int) (List α) → W γ} (hw : (W.bind (W.ret e) f).run Φ) (z : Zs (g ++ R) H Ho) (o : OT K Ho v e g) (k : ∀ x v g, Zs (g ++ R) H Ho → OT K Ho v x g → (f x).run Φ → G v) : LetV G v := k e v g z o hw
/-- d.setdefault(k, []).append(x) -/
def sdApp {κ : Type} [DecidableEq κ] (m : Dc κ (List α)) (k : κ) (x : α) : W (Dc κ (List α)) := W.guard (m.length < sizeLine ∧ ((valM m k).getD []).length < sizeLine) (W.ret (putM (setd m k) k ((valM m k).getD [] ++ [x])))
end
end Z

/-! # what is one's own is lent for a call; `is` of bools; count; isinstance of any value -/
namespace Z
open PySem PySem.Spec PyProof.Rows L2
section
variable {K : PySem.W.Frag} {H Ho H' Ho' : Hp} {κ α γ : Type} [Py κ] [DecidableEq κ] [DKey κ] [Py α] {Φ : γ → Prop} {R : Grp} {v w u : V} {Q : VK} {σ : L2.St}
theorem l_lend {P : Prop} {xs : List α} {g : Grp} (o : OL K Ho v xs g) (z : Zs (g ++ R) H Ho) (k : ∀ Ho', Same Ho Ho' → Zs R H Ho' → Z.D K Ho' v xs → (∀ H2 Ho2, Same Ho' Ho2 → Zs R H2 Ho2 → Zs (g ++ R) H2 Ho) → P) : P := by
  obtain ⟨p, vs, rfl, d, rfl⟩ := o
  have z0 : Zs ((p, HO.lst vs) :: R) H Ho := z
  have hs : Same Ho (upd Ho p (.lst vs)) := Same.new z0.headN
  refine k (upd Ho p (.lst vs)) hs z0.freeze (.lst (SqL.of upd_same) (DL.mo d hs)) (fun H2 Ho2 s z2 => ?_)
  have hp : Ho2 p = some (.lst vs) := s _ _ upd_same
  refine ⟨fun b x e => z2.le _ _ (s _ _ (hs _ _ e)), fun r hr => ?_, z0.nd, z0.nt⟩
  rcases List.mem_cons.mp hr with e | hr
  · subst e
    exact ⟨z2.le _ _ hp, z0.headN⟩
  · exact ⟨(z2.rt r hr).1, (z0.rt r (List.mem_cons_of_mem _ hr)).2⟩
theorem p_again {P : Prop} {rs : Grp} (z : Zs rs H Ho) (k : ∀ Ho', Same Ho Ho' → Zs rs H Ho' → P) : P := k Ho (Same.refl _) z
theorem t_fr {P : Prop} {m : Dc κ (List α)} {g : Grp} (o : OT K Ho v m g) (z : Zs (g ++ R) H Ho) (k : ∀ Ho' g', Same Ho Ho' → Zs (g' ++ R) H Ho' → OD K Ho' v m g' → P) : P := by
  obtain ⟨Ho', g', s, z', o'⟩ := o.fr z
  exact k Ho' g' s z' o'
theorem valM_setd {m : Dc κ (List α)} {k : κ} : valM (setd m k) k = some ((valM m k).getD []) := by
  unfold setd
  cases h : valM m k with
  | none => rw [if_neg (by simp)]; exact valM_new h
  | some xs => rw [if_pos (by simp), h]; rfl
theorem sd_h1 {m : Dc κ (List α)} {k : κ} {x : α} {f : Dc κ (List α) → W γ} (hw : (W.bind (sdApp m k x) f).run Φ) : m.length < sizeLine := hw.1.1
theorem sd_h2 {m : Dc κ (List α)} {k : κ} {x : α} {f : Dc κ (List α) → W γ} (hw : (W.bind (sdApp m k x) f).run Φ) (xs : List α) (h : valM (setd m k) k = some xs) : xs.length < sizeLine := by
  rw [valM_setd] at h
  cases h
  exact hw.1.2
theorem sd_run {m m' : Dc κ (List α)} {k : κ} {x : α} {g : Grp} {f : Dc κ (List α) → W γ} (hw : (W.bind (sdApp m k x) f).run Φ) (hm : ∀ xs, valM (setd m k) k = some xs → m' = putM (setd m k) k (xs ++ [x])) (o : OT K Ho v m' g) : ∃ q, OT K Ho v q g ∧ (f q).run Φ := by
  rw [hm _ valM_setd] at o
  exact ⟨_, o, hw.2⟩
end
section
variable {X : Cx}
theorem bl_beq (a b : Bool) : (Value.bool a == Value.bool b) = decide (a = b) := by
  by_cases e : a = b
  · subst e
    exact (beq_self_eq_true (Value.bool a)).trans (decide_eq_true (p := a = a) rfl).symm
  · exact (beq_eq_false_iff_ne.mpr fun z => e (Value.bool.inj z)).trans (decide_eq_false e).symm
def rIsB : R2 := fun x y H Q => ∃ a b, x = .bl a ∧ y = .bl b ∧ Q (.bl (decide (a = b))) H
def rNotB : R2 := fun x y H Q => ∃ a b, x = .bl a ∧ y = .bl b ∧ Q (.bl (!decide (a = b))) H
theorem op_isB : OpR X (compareOp .Is) rIsB := by
  intro pins s σ H x y v u Q I rx ry h
  obtain ⟨a, b, rfl, rfl, q⟩ := h
  cases (show v = Value.bool a from rx)
  cases (show u = Value.bool b from ry)
  exact wpAny_is_plain rfl (fin_bl I q (bl_beq a b).symm)
theorem op_notB : OpR X (compareOp .IsNot) rNotB := by
  intro pins s σ H x y v u Q I rx ry h
  obtain ⟨a, b, rfl, rfl, q⟩ := h
  cases (show v = Value.bool a from rx)
  cases (show u = Value.bool b from ry)
  exact wpAny_isNot_plain rfl (fin_bl I q (congrArg not (bl_beq a b).symm))
end
section
variable {K : PySem.W.Frag} {H Ho : Hp} {R : Grp} {v w : V} {Q : VK} {α : Type} [Py α]
theorem y_isB {a b : Bool} (k : Q (.bl (decide (a = b))) H) : rIsB (.bl a) (.bl b) H Q := ⟨a, b, rfl, rfl, k⟩
theorem y_notB {a b : Bool} (k : Q (.bl (!decide (a = b))) H) : rNotB (.bl a) (.bl b) H Q := ⟨a, b, rfl, rfl, k⟩
theorem zmt_cnt {X : Cx} (hK : X.K = K) : MtR X "list.count" (rCntI K) := hK ▸ mt_lcount
def cntZ (xs : List Int) (k : Int) : Int := ((xs.count k : Nat) : Int)
theorem y_cnt {xs : List Int} {k : Int} (d : LV K R Ho v xs) (z : Zs R H Ho) (kk : Q (.int (cntZ xs k)) H) : rCntI K v [.int k] H Q := by
  obtain ⟨p, vs, rfl, d, s⟩ := d.rd z
  rw [dl_ints d] at s
  exact ⟨p, xs, k, rfl, rfl, s, kk⟩
def pyK : PyData → String
  | .none => "NoneType" | .bool _ => "bool" | .int _ => "int" | .str _ => "str" | .list _ => "list" | .tuple _ => "tuple" | .dict _ => "dict"
def isP (x : PyData) (T : String) : Bool := (kitB (pyK x) T).getD false
/-- no instance -/
def okP (y : PyData) : Prop := ∀ l, y ≠ .dict l
theorem y_isiP {x : α} {T : String} (d : Z.D K H v x) (hg : okP (toPy x)) (h : (["NoneType", "bool", "int", "str", "list", "tuple", "dict"].all fun k => (kitB k T).isSome) = true) (k : Q (.bl (isP (toPy x) T)) H) : rIsi K [v, .ty T] H Q := by
  have hs : (kitB (pyK (toPy x)) T).isSome = true := by
    refine (List.all_eq_true.mp h) _ ?_
    cases toPy x <;> simp [pyK]
  obtain ⟨b, hb⟩ := Option.isSome_iff_exists.mp hs
  have e : isP (toPy x) T = b := by unfold isP; rw [hb]; rfl
  rw [e] at k
  refine ⟨v, .ty T, _, .type T, b, rfl, .ty T, ?_, kit_ty hb, k⟩
  have d : Dq K H v (toPy x) := d
  generalize toPy x = y at d hg
  cases d with
  | ins _ _ _ => exact absurd rfl (hg _)
  | non => exact .base .non
  | bl b => exact .base (.bl _)
  | int i => exact .base (.int _)
  | str s => exact .base (.str _)
  | lst hs _ => exact tyx_list hs
  | tup hs _ => exact tyx_tup (SqT.of hs)
end
/-! methods inside a comprehension: the written part is named outside -/
section
variable {X : Cx} {K : PySem.W.Frag} {o e : Expr} {es : List Expr} {to : TE} {t : TA} {name : Str} {apos cpos : Pos} {T id : String} {r : V → List V → Hp → VK → Prop}
theorem zpe_bm (hK : X.K = K) (pa : PlainAttrs T) (slot : Slot T name id) (hty : typeOf (.builtin id) = pure (.type "method_descriptor")) (hm : MtR X id r) (ho : PE X o to) (ha : PA X (e :: es) t)
    (hbase : attributeBase o name X.env (eval o X.env) = eval o X.env := by rfl)
    (hfew : ((backTo cpos (starEach (e :: es) X.env)).all (fun x => !x.1) && (backToKw cpos (keywordEach [] X.env)).all (fun x => x.1.isSome)
      && decide ((e :: es).length + ([] : List Keyword).length + (if ([] : List Keyword).isEmpty then 0 else 1) < 30)) = true := by rfl)
    (hline : (apos.endLine == cpos.line) = true := by rfl) (hs : starEach (e :: es) X.env = (false, eval e X.env) :: starEach es X.env := by rfl) (hplain : (backTo cpos (starEach es X.env)).any (·.1) = false := by rfl) :
    PE X (.Call (.Attribute o name apos) (e :: es) [] cpos) (tBM K T r to t) := hK ▸ pe_bm pa slot hty hm ho ha hbase hfew hline hs hplain
theorem zpe_bm0 (hK : X.K = K) (pa : PlainAttrs T) (slot : Slot T name id) (hty : typeOf (.builtin id) = pure (.type "method_descriptor")) (hm : MtR X id r) (ho : PE X o to)
    (hbase : attributeBase o name X.env (eval o X.env) = eval o X.env := by rfl) (hline : (apos.endLine == cpos.line) = true := by rfl) : PE X (.Call (.Attribute o name apos) [] [] cpos) (tBM0 K T r to) := hK ▸ pe_bm0 pa slot hty hm ho hbase hline
end
end Z

/-! # texts -/
namespace Z
open PySem PySem.Spec PyProof.Rows L2
section
variable {K : PySem.W.Frag} {H Ho : Hp} {R : Grp} {v w : V} {Q : VK} {σ : L2.St} {te to : TE} {X : Cx}
def strI (i : Int) : Str := toString i
def CStr (i : Int) : Prop := i.natAbs.log2 < 1920
def rCatStr : R2 := fun x y H Q => ∃ i j, x = .str i ∧ y = .str j ∧ i.length + j.length ≤ sizeLine ∧ Q (.str (i ++ j)) H
theorem zop_catStr : OpR X (binaryOp .Add) rCatStr := op_add_str
theorem y_catStr {a b : Str} (hg : a.length + b.length ≤ sizeLine) (k : Q (.str (a ++ b)) H) : rCatStr (.str a) (.str b) H Q := ⟨a, b, rfl, rfl, hg, k⟩
def rStrI : List V → Hp → VK → Prop := fun xs H Q => ∃ i, xs = [.int i] ∧ i.natAbs.log2 < 1920 ∧ Q (.str (toString i)) H
theorem zstrI : CallR X (.type "str") rStrI := call_str_int
theorem y_strI {i : Int} (hg : CStr i) (k : Q (.str (strI i)) H) : rStrI [.int i] H Q := ⟨i, rfl, hg, k⟩
theorem dl_strs {vs : List V} : ∀ {xs : List Str}, DL K H vs xs → vs = xs.map V.str := by
  induction vs with
  | nil => intro xs h; cases xs with | nil => rfl | cons x xs => cases h
  | cons v vs ih =>
    intro xs h
    cases xs with
    | nil => cases h
    | cons x xs => cases h with | cons h1 h2 => rw [ih h2, d_str h1]; rfl
def rJoin (K : PySem.W.Frag) : V → List V → Hp → VK → Prop := fun x xs H Q => ∃ a p, ∃ ys : List Str, x = .str a ∧ xs = [.ref p] ∧ (SqL K H p (ys.map V.str) ∨ SqT K H p (ys.map V.str)) ∧ (ys.map (·.length)).sum + ys.length * a.length ≤ 16777216 ∧ Q (.str (Txt.join a ys)) H
theorem zmt_join (hK : X.K = K) : MtR X "str.join" (rJoin K) := hK ▸ mt_join
def JoinG (a : Str) (ys : List Str) : Prop := (ys.map (·.length)).sum + ys.length * a.length ≤ 16777216
theorem y_sjoin {a : Str} {ys : List Str} (d : LV K R Ho w ys) (z : Zs R H Ho) (hg : JoinG a ys) (k : Q (.str (Txt.join a ys)) H) : rJoin K (.str a) [w] H Q := by
  obtain ⟨p, vs, rfl, d, s⟩ := d.rd z
  rw [dl_strs d] at s
  exact ⟨a, p, ys, rfl, rfl, .inl s, hg, k⟩
def StrR (r : V → List V → Hp → VK → Prop) (te : TE) (σ : L2.St) (Q : VK) (x : V) (H1 : Hp) : Prop := (∃ a, x = .str a) ∧ te σ H1 fun y H2 => r x [y] H2 Q
theorem y_tm1 {r : V → List V → Hp → VK → Prop} (k : to σ H fun x H1 => StrR r te σ Q x H1) : tM1 r to te σ H Q := k
theorem y_tm1s {r : V → List V → Hp → VK → Prop} {a : Str} (k : te σ H fun y H2 => r (.str a) [y] H2 Q) : StrR r te σ Q (.str a) H := ⟨⟨a, rfl⟩, k⟩
/-! f-strings -/
def tFs (ts : List TE) : TE := fun σ H Q => tJs ts Str.empty σ H fun out H1 => Q (.str out) H1
theorem zpe_fs {v1 v2 : Expr} {rest : List Expr} {ts : List TE} {pos : Pos} (h : PJ X (v1 :: v2 :: rest) ts) : PE X (.JoinedStr (v1 :: v2 :: rest) pos) (tFs ts) := pe_joined h
def JsC (ts : List TE) (acc : Str) (σ : L2.St) (QJ : Str → Hp → Prop) (x : V) (H1 : Hp) : Prop := ∃ y : Str, x = .str y ∧ (acc ++ y).length ≤ sizeLine ∧ tJs ts (acc ++ y) σ H1 QJ
theorem y_fs {ts : List TE} (k : tJs ts Str.empty σ H fun out H1 => Q (.str out) H1) : tFs ts σ H Q := k
theorem y_jsC {t : TE} {ts : List TE} {acc : Str} {QJ : Str → Hp → Prop} (k : t σ H fun x H1 => JsC ts acc σ QJ x H1) : tJs (t :: ts) acc σ H QJ := k
theorem y_jsS {ts : List TE} {acc y : Str} {QJ : Str → Hp → Prop} (hg : (acc ++ y).length ≤ sizeLine) (k : tJs ts (acc ++ y) σ H QJ) : JsC ts acc σ QJ (.str y) H := ⟨y, rfl, hg, k⟩
theorem y_jsN {acc : Str} (k : Q (.str acc) H) : tJs [] acc σ H fun out H1 => Q (.str out) H1 := k
def FmtK (Q : VK) (x : V) (H1 : Hp) : Prop := (∃ y : Str, x = .str y ∧ y.length ≤ sizeLine ∧ Q (.str y) H1) ∨ ∃ i : Int, x = .int i ∧ i.natAbs.log2 < 1920 ∧ Q (.str (toString i)) H1
theorem y_fmt (k : te σ H fun x H1 => FmtK Q x H1) : tFmt te σ H Q := k
theorem y_fmtI {i : Int} (hg : CStr i) (k : Q (.str (strI i)) H) : FmtK Q (.int i) H := .inr ⟨i, rfl, hg, k⟩
theorem y_fmtS {y : Str} (hg : y.length ≤ sizeLine) (k : Q (.str y) H) : FmtK Q (.str y) H := .inl ⟨y, rfl, hg, k⟩
end
end Z

/-! # a tuple of two lists of one's own -/
namespace Z
open PySem L2
section
variable {K : PySem.W.Frag} {H Ho H' Ho' : Hp} {α β γ : Type} [Py α] [Py β] {Φ : γ → Prop} {R g0 g1 g : Grp} {v w u v0 v1 : V} {Q : VK} {σ : L2.St} {xs : List α} {ys : List β} {x : List α × List β}
def TupAt (Ho : Hp) (v v0 v1 : V) : Prop := ∃ p, v = .ref p ∧ Ho p = some (.tup [v0, v1])
theorem TupAt.mo (h : TupAt Ho v v0 v1) (e : Same Ho Ho') : TupAt Ho' v v0 v1 := by
  obtain ⟨p, rfl, hp⟩ := h
  exact ⟨p, rfl, e _ _ hp⟩
def OP (K : PySem.W.Frag) (Ho : Hp) (v : V) (x : List α × List β) (g : Grp) : Prop := ∃ v0 v1 g0 g1, TupAt Ho v v0 v1 ∧ OL K Ho v0 x.1 g0 ∧ OL K Ho v1 x.2 g1 ∧ g = g0 ++ g1
theorem OP.mo (h : OP K Ho v x g) (e : Same Ho Ho') : OP K Ho' v x g := by
  obtain ⟨v0, v1, g0, g1, t, o0, o1, rfl⟩ := h
  exact ⟨v0, v1, g0, g1, t.mo e, o0.mo e, o1.mo e, rfl⟩
theorem p_open {P : Prop} (o : OP K Ho v x g) (z : Zs (g ++ R) H Ho) (k : ∀ v0 v1 g0 g1, TupAt Ho v v0 v1 → OL K Ho v0 x.1 g0 → OL K Ho v1 x.2 g1 → Zs (g0 ++ (g1 ++ R)) H Ho → P) : P := by
  obtain ⟨v0, v1, g0, g1, t, o0, o1, rfl⟩ := o
  rw [List.append_assoc] at z
  exact k v0 v1 g0 g1 t o0 o1 z
theorem p_close {P : Prop} (t : TupAt Ho v v0 v1) (o0 : OL K Ho v0 xs g0) (o1 : OL K Ho v1 ys g1) (z : Zs (g0 ++ (g1 ++ R)) H Ho) (k : ∀ g, OP K Ho v (xs, ys) g → Zs (g ++ R) H Ho → P) : P :=
  k (g0 ++ g1) ⟨v0, v1, g0, g1, t, o0, o1, rfl⟩ (by rw [List.append_assoc]; exact z)
theorem p_reopen {P : Prop} (t : TupAt Ho v v0 v1) (o : OP K Ho v x g) (z : Zs (g ++ R) H Ho) (k : ∀ g0 g1, OL K Ho v0 x.1 g0 → OL K Ho v1 x.2 g1 → Zs (g0 ++ (g1 ++ R)) H Ho → P) : P := by
  obtain ⟨w0, w1, g0, g1, t2, o0, o1, rfl⟩ := o
  rw [List.append_assoc] at z
  obtain ⟨p, rfl, hp⟩ := t
  obtain ⟨q, hq, hq2⟩ := t2
  cases hq
  rw [hp] at hq2
  cases hq2
  exact k g0 g1 o0 o1 z
theorem p_fr {P : Prop} (o : OP K Ho v x g) (z : Zs (g ++ R) H Ho) (k : ∀ Ho', Same Ho Ho' → Zs R H Ho' → Z.D K Ho' v x → P) : P := by
  obtain ⟨w0, w1, g0, g1, t, o0, o1, rfl⟩ := o
  rw [List.append_assoc] at z
  obtain ⟨Ho1, e1, z1, d0⟩ := OL.fr o0 z
  obtain ⟨Ho2, e2, z2, d1⟩ := OL.fr (o1.mo e1) z1
  refine k Ho2 (e1.trans e2) z2 ?_
  obtain ⟨p, rfl, hp⟩ := t
  exact .tup (e2 _ _ (e1 _ _ hp)) (.cons (D.mo d0 e2) (.cons d1 .nil))
theorem p_tupk (z : Zs R H Ho) (k : ∀ p H' Ho', Same Ho Ho' → Zs R H' Ho' → TupAt Ho' (.ref p) v0 v1 → Q (.ref p) H') : TupK Q [v0, v1] H :=
  ⟨by show 2 ≤ sizeLine; decide, fun p hp => k p _ _ (Same.new (z.free hp)) (z.alloc hp) ⟨p, rfl, upd_same⟩⟩
theorem TupAt.d (t : TupAt Ho v v0 v1) (d0 : Z.D K Ho v0 xs) (d1 : Z.D K Ho v1 ys) : Z.D K Ho v (xs, ys) := by
  obtain ⟨p, rfl, hp⟩ := t
  exact .tup hp (.cons d0 (.cons d1 .nil))
theorem TupAt.rd (t : TupAt Ho v v0 v1) (l0 : LV K R Ho v0 xs) (l1 : LV K R Ho v1 ys) (z : Zs R H Ho) : Z.D K H v (xs, ys) := by
  obtain ⟨p, rfl, hp⟩ := t
  exact .tup (z.le _ _ hp) (.cons (l0.dp z) (.cons (l1.dp z) .nil))
theorem p_ix0 (t : TupAt Ho v v0 v1) (z : Zs R H Ho) (k : Q v0 H) : rIxT K v (.int 0) H Q := by
  obtain ⟨p, rfl, hp⟩ := t
  exact ⟨p, [v0, v1], 0, v0, rfl, rfl, SqT.of (z.le _ _ hp), rfl, k⟩
theorem p_ix1 (t : TupAt Ho v v0 v1) (z : Zs R H Ho) (k : Q v1 H) : rIxT K v (.int 1) H Q := by
  obtain ⟨p, rfl, hp⟩ := t
  exact ⟨p, [v0, v1], 1, v1, rfl, rfl, SqT.of (z.le _ _ hp), rfl, k⟩
theorem p_len (t : TupAt Ho v v0 v1) (z : Zs R H Ho) (k : Q (.int 2) H) : rLenZ K [v] H Q := by
  obtain ⟨p, rfl, hp⟩ := t
  exact ⟨p, [v0, v1], rfl, .inr (SqT.of (z.le _ _ hp)), k⟩
theorem p_gt2 {i j : Nat} {QS : L2.St → Hp → Prop} (σ' : V → V → L2.St) (hσ : ∀ v u, (σ.set i (some v)).set j (some u) = σ' v u) (t : TupAt Ho v v0 v1) (z : Zs R H Ho) (k : QS (σ' v0 v1) H) : gTup K 2 (gCons (gName i) (gCons (gName j) gNil)) v σ H QS := by
  obtain ⟨p, rfl, hp⟩ := t
  exact ⟨_, _, rfl, SqT.of (z.le _ _ hp), rfl, _, _, rfl, _, _, rfl, rfl, by rw [hσ]; exact k⟩
theorem p_o {G : V → Prop} {e : List α × List β} {f : List α × List β → W γ} (hw : (W.bind (W.ret e) f).run Φ) (z : Zs (g ++ R) H Ho) (o : OP K Ho v e g) (k : ∀ x v g, Zs (g ++ R) H Ho → OP K Ho v x g → (f x).run Φ → G v) : LetV G v := k e v g z o hw
theorem g_rep {n : Int} (z : Zs (g ++ R) H Ho) (o : OL K Ho v xs g) (hg : repG xs n) (k : ∀ H' p ws, Zs ([(p, .lst ws)] ++ (g ++ R)) H' Ho → DL K Ho ws (repL xs n) → Q (.ref p) H') : rRep v (.int n) H Q := by
  obtain ⟨p, vs, rfl, d, rfl⟩ := o
  exact ⟨p, n, vs, rfl, rfl, z.head, hg.1, hg.2.1, by rw [DL.len d]; exact hg.2.2, fun q hq => k _ q _ (z.root hq) (rep_dl d _)⟩
theorem zpe_revL {X : Cx} {e : Expr} {te : TE} {k : Nat} {p1 p2 p3 pos : Pos} (hK : X.K = K) (he : PE X e te) : PE X (.Subscript e (.Slice none none (some (.UnaryOp .USub (.Constant (.int 1) k p1) p2)) p3) pos) (tRevL K te) := hK ▸ pe_revL he
def RevK (K : PySem.W.Frag) (Q : VK) (x : V) (H1 : Hp) : Prop := ∃ a xs, x = .ref a ∧ SqL K H1 a xs ∧ ∀ p, H1 p = none → Q (.ref p) (upd H1 p (.lst xs.reverse))
theorem y_revL {te : TE} (k : te σ H fun x H1 => RevK K Q x H1) : tRevL K te σ H Q := k
theorem y_rev1 (d : LV K R Ho v xs) (z : Zs R H Ho) (k : ∀ H' p ws, Zs ((p, .lst ws) :: R) H' Ho → DL K Ho ws xs.reverse → Q (.ref p) H') : RevK K Q v H := by
  obtain ⟨p, vs, rfl, d, s⟩ := d.rd z
  refine ⟨p, vs, rfl, s, fun q hq => k _ q _ (z.root hq) ?_⟩
  show DqAll _ _ _ (xs.reverse.map Py.toPy)
  rw [List.map_reverse]
  exact dpAll_rev d
end
/-! dicts whose keys are four ints -/
instance : DKey (P4 Int Int Int Int) where
  kt := List L2.Key
  dec := inferInstance
  key p := [.inl p.a, .inl p.b, .inl p.c, .inl p.d]
  inj h := by
    rename_i x y
    obtain ⟨a1, a2, a3, a4⟩ := x
    obtain ⟨b1, b2, b3, b4⟩ := y
    simp only [List.cons.injEq, Sum.inl.injEq, and_true] at h
    rw [h.1, h.2.1, h.2.2.1, h.2.2.2]
  ho := .dT
  get e s d := by
    cases d with
    | tup hs ha =>
      cases ha with
      | cons h1 ha => cases ha with
        | cons h2 ha => cases ha with
          | cons h3 ha => cases ha with
            | cons h4 ha =>
              cases ha
              rw [d_int h1, d_int h2, d_int h3, d_int h4] at hs
              exact DGet.t e (s _ _ hs)
  put e s d h := by
    cases d with
    | tup hs ha =>
      cases ha with
      | cons h1 ha => cases ha with
        | cons h2 ha => cases ha with
          | cons h3 ha => cases ha with
            | cons h4 ha =>
              cases ha
              rw [d_int h1, d_int h2, d_int h3, d_int h4] at hs
              exact DPut.t e (s _ _ hs) h
  isd e := .inr ⟨_, .inl e⟩
section
variable {K : PySem.W.Frag} {H Ho : Hp} {α : Type} [Py α] {R : Grp} {Q : VK} {σ : L2.St}
theorem g_dnewT4 (z : Zs R H Ho) (k : ∀ H' v g, Zs (g ++ R) H' Ho → OD K Ho v ([] : Dc (P4 Int Int Int Int) α) g → Q v H') : tDNewT σ H Q := fun p hp => k _ _ _ (z.root hp) ⟨p, [], rfl, ⟨rfl, .nil⟩, rfl⟩
end
end Z

/-! # texts, sign by sign; split, int -/
namespace Z
open PySem PySem.Spec PyProof.Rows L2
section
variable {K : PySem.W.Frag} {H Ho : Hp} {R : Grp} {v w : V} {Q : VK} {σ : L2.St} {te to : TE} {X : Cx} {γ : Type} {Φ : γ → Prop}
def chS (z : Str) : List Str := z.cps.toList.map fun c => (⟨#[c]⟩ : Str)
theorem trn_str {z : Str} : Trn K [] (Its z) (chS z) Ho := by
  intro i rs' H' Ho' e zz sub
  refine ⟨fun x hx => ?_, fun hl => ?_⟩
  · unfold chS at hx
    rw [List.getElem?_map, Option.map_eq_some_iff] at hx
    obtain ⟨c, hc, rfl⟩ := hx
    have hi : i < z.cps.size := by
      have := (List.getElem?_eq_some_iff.mp hc).1
      rwa [Array.length_toList] at this
    refine ⟨hi, fun y H'' yy => ?_⟩
    obtain ⟨rfl, d, hd, rfl⟩ := yy
    have : d = c := by
      rw [Array.getElem?_toList] at hc
      exact Option.some.inj (hd.symm.trans hc)
    subst this
    exact ⟨Ho', Same.refl _, fun _ z => z, .str _⟩
  · unfold chS at hl
    rw [List.length_map, Array.length_toList] at hl
    exact hl
def SrcS (R : It → Hp → Prop) (x : V) (H : Hp) : Prop := ∃ z, x = .str z ∧ R (Its z) H
theorem k_iStr {R : It → Hp → Prop} (k : te σ H fun x H1 => SrcS R x H1) : iStr te σ H R := k
theorem k_srcS {R : It → Hp → Prop} {z : Str} (k : ∀ J, Trn K [] J (chS z) Ho → R J H) : SrcS R (.str z) H := ⟨z, rfl, k _ trn_str⟩
def hasS (j i : Str) : Bool := !(Builtin.Str.occurrences j i 0 j.length 1).isEmpty
def rInStr : R2 := fun x y H Q => ∃ i j, x = .str i ∧ y = .str j ∧ Q (.bl (!(Builtin.Str.occurrences j i 0 j.length 1).isEmpty)) H
def rNotinStr : R2 := fun x y H Q => ∃ i j, x = .str i ∧ y = .str j ∧ Q (.bl (!(!(Builtin.Str.occurrences j i 0 j.length 1).isEmpty))) H
theorem zop_inStr : OpR X (compareOp .In) rInStr := op_in_str
theorem zop_notinStr : OpR X (compareOp .NotIn) rNotinStr := op_notin_str
theorem y_inStr {i j : Str} (k : Q (.bl (hasS j i)) H) : rInStr (.str i) (.str j) H Q := ⟨i, j, rfl, rfl, k⟩
theorem y_notinStr {i j : Str} (k : Q (.bl (!hasS j i)) H) : rNotinStr (.str i) (.str j) H Q := ⟨i, j, rfl, rfl, k⟩
/-- the sign at a place -/
def chr (z : Str) (i : Int) : W Str := W.guard (z.length ≤ sizeLine) (W.bind (W.opt (atI z.cps.toList i)) fun c => W.ret (⟨#[c]⟩ : Str))
theorem y_ixStr {z : Str} {i : Int} {f : Str → W γ} (hw : (W.bind (chr z i) f).run Φ) (k : ∀ t, (f t).run Φ → Q (.str t) H) : rIxS (.str z) (.int i) H Q := by
  obtain ⟨hl, c, hc, hw⟩ := hw
  exact ⟨z, i, c, rfl, rfl, hl, hc, k _ hw⟩
def rLenS : List V → Hp → VK → Prop := fun xs H Q => ∃ y : Str, xs = [.str y] ∧ y.length ≤ sizeLine ∧ Q (.int (y.length : Nat)) H
theorem zlenS : CallR X (.builtin "len") rLenS := by
  intro pins s σ H xs us Q I r h
  obtain ⟨y, e, hl, q⟩ := h
  exact call_len pins s σ H xs us Q I r ⟨.str y, y.length, e, ⟨hl, rfl⟩, q⟩
theorem y_lenStr {y : Str} (hg : y.length ≤ sizeLine) (k : Q (.int (y.length : Int)) H) : rLenS [.str y] H Q := ⟨y, rfl, hg, k⟩
def rSplit : V → List V → Hp → VK → Prop := fun x xs H Q => ∃ a b, x = .str a ∧ xs = [.str b] ∧ (b.length == 0) = false ∧ a.length + 2 ≤ sizeLine ∧ rNewStrs (Txt.split a b) H Q
theorem zmt_split : MtR X "str.split" rSplit := mt_split
def SplG (a b : Str) : Prop := (b.length == 0) = false ∧ a.length + 2 ≤ sizeLine
theorem strs_dl : ∀ {xs : List Str}, DL K H (xs.map V.str) xs
  | [] => .nil
  | x :: xs => .cons (.str x) strs_dl
theorem y_split {a b : Str} (z : Zs R H Ho) (hg : SplG a b) (k : ∀ H' p ws, Zs ((p, .lst ws) :: R) H' Ho → DL K Ho ws (Txt.split a b) → Q (.ref p) H') : rSplit (.str a) [.str b] H Q :=
  ⟨a, b, rfl, rfl, hg.1, hg.2, fun p hp => k _ p _ (z.root hp) strs_dl⟩
def rIntS : List V → Hp → VK → Prop := fun xs H Q => ∃ a n, xs = [.str a] ∧ PySem.intText? a = some n ∧ a.length ≤ 640 ∧ Q (.int n) H
theorem zintS : CallR X (.type "int") rIntS := call_int_str
/-- int(text) -/
def intS (a : Str) : W Int := W.guard (a.length ≤ 640) (W.opt (PySem.intText? a))
theorem y_intS {a : Str} {f : Int → W γ} (hw : (W.bind (intS a) f).run Φ) (k : ∀ t, (f t).run Φ → Q (.int t) H) : rIntS [.str a] H Q := by
  obtain ⟨hl, n, hn, hw⟩ := hw
  exact ⟨a, n, rfl, hn, hl, k _ hw⟩
end
end Z

/-! # a list of two is taken apart -/
namespace Z
open PySem PySem.Spec PyProof.Rows L2
section
variable {α γ : Type} [Py α] {K : PySem.W.Frag} {rs : List (Addr × HO)} {H Ho : Hp} {σ : L2.St} {Φ : γ → Prop}
def two {α : Type} : List α → Option (α × α)
  | [a, b] => some (a, b)
  | _ => none
theorem two_some {xs : List α} {p : α × α} (h : two xs = some p) : xs = [p.1, p.2] := by
  match xs, h with
  | [a, b], h => cases h; rfl
theorem zpg_unl {X : Cx} {es : List Expr} {k : Nat} {t : TGs} {n : Nat} {pos : Pos} (hK : X.K = K) (hc : X.calm = true) (h : PGs X es t)
    (hn : (assignEach es X.env).length = n := by rfl) (hst : (assignEach es X.env).findIdx? (·.1) = none := by rfl) : PG X (.Tuple es k pos) (gUnl K n t) := hK ▸ pg_unl hc h hn hst
theorem c_unl2 {i j : Nat} {x : V} {QS : L2.St → Hp → Prop} {xs : List α} {f : α × α → W γ} (hw : (W.bind (W.opt (two xs)) f).run Φ) (σ' : V → V → L2.St) (hσ : ∀ v u, (σ.set i (some v)).set j (some u) = σ' v u) (d : LV K rs Ho x xs) (z : Zs rs H Ho)
    (k : ∀ a b v u, D K Ho v a → D K Ho u b → (f (a, b)).run Φ → QS (σ' v u) H) : gUnl K 2 (gCons (gName i) (gCons (gName j) gNil)) x σ H QS := by
  obtain ⟨p, e, hf⟩ := hw
  have ex := two_some e
  subst ex
  obtain ⟨q, vs, rfl, d, s⟩ := LV.rd d z
  cases d with
  | cons h1 h2 =>
    cases h2 with
    | cons h2 h3 =>
      cases h3
      exact ⟨_, _, rfl, s, rfl, _, _, rfl, _, _, rfl, rfl, by rw [hσ]; exact k _ _ _ _ h1 h2 hf⟩
end
end Z

/-! # data of any kind: items, lengths, kinds -/
namespace Z
open PySem PySem.Spec PyProof.Rows L2
theorem IxR.or {X : Cx} {r r' : R2} (h : IxR X r) (h' : IxR X r') : IxR X (fun x y H Q => r x y H Q ∨ r' x y H Q) := by
  intro value slice pins s σ H x y v u Q I rx ry q hs
  rcases q with q | q
  · exact h _ _ _ _ _ _ _ _ _ _ _ I rx ry q hs
  · exact h' _ _ _ _ _ _ _ _ _ _ _ I rx ry q hs
section
variable {α β γ : Type} [Py α] {K : PySem.W.Frag} {rs : List (Addr × HO)} {H Ho : Hp} {σ : L2.St} {Φ : γ → Prop} {Q : VK} {v : V}
def rIxA (K : PySem.W.Frag) : R2 := fun x y H Q => rIxL K x y H Q ∨ rIxT K x y H Q
theorem zix_any {X : Cx} (hK : X.K = K) : IxR X (rIxA K) := (zix_list hK).or (zix_tup hK)
/-- the item of a list or a tuple -/
def pyIx : PyData → Int → Option PyData
  | .list xs, i => atI xs i
  | .tuple xs, i => atI xs i
  | _, _ => none
def pyLen : PyData → Option Int
  | .list xs => some (xs.length : Int)
  | .tuple xs => some (xs.length : Int)
  | _ => none
theorem atI_dqG {H : Hp} {vs : List V} {ds : List PyData} {i : Int} {d : PyData} (h : DqAll K H vs ds) (e : atI ds i = some d) : ∃ v, atI vs i = some v ∧ Dq K H v d := by
  unfold atI at e ⊢
  have hl := dpAll_len h
  rw [hl]
  cases q : ixN ds.length i with
  | none => rw [q] at e; cases e
  | some j =>
    rw [q] at e
    exact dpAll_get h e
theorem y_ixP {x : PyData} {i : Int} {f : PyData → W γ} (d : D K Ho v x) (z : Zs rs H Ho) (hw : (W.bind (W.opt (pyIx x i)) f).run Φ) (k : ∀ t w, D K Ho w t → (f t).run Φ → Q w H) : rIxA K v (.int i) H Q := by
  obtain ⟨a, ea, hw⟩ := hw
  have d : Dq K Ho v x := d
  cases d with
  | lst hs ha =>
    obtain ⟨w, ew, dw⟩ := atI_dqG ha ea
    exact .inl ⟨_, _, i, w, rfl, rfl, z.le.seq hs, ew, k a w dw hw⟩
  | tup hs ha =>
    obtain ⟨w, ew, dw⟩ := atI_dqG ha ea
    exact .inr ⟨_, _, i, w, rfl, rfl, SqT.of (z.le _ _ hs), ew, k a w dw hw⟩
  | non => cases ea
  | bl _ => cases ea
  | int _ => cases ea
  | str _ => cases ea
  | ins _ _ _ => cases ea
theorem y_lenP {x : PyData} {f : Int → W γ} (d : D K Ho v x) (z : Zs rs H Ho) (hw : (W.bind (W.opt (pyLen x)) f).run Φ) (k : ∀ t, (f t).run Φ → Q (.int t) H) : rLenZ K [v] H Q := by
  obtain ⟨a, ea, hw⟩ := hw
  have d : Dq K Ho v x := d
  cases d with
  | lst hs ha =>
    cases ea
    refine ⟨_, _, rfl, .inl (z.le.seq hs), ?_⟩
    rw [dpAll_len ha]
    exact k _ hw
  | tup hs ha =>
    cases ea
    refine ⟨_, _, rfl, .inr (SqT.of (z.le _ _ hs)), ?_⟩
    rw [dpAll_len ha]
    exact k _ hw
  | non => cases ea
  | bl _ => cases ea
  | int _ => cases ea
  | str _ => cases ea
  | ins _ _ _ => cases ea
/-! isinstance(x, (T1, T2)) -/
theorem zisiT {X : Cx} (hK : X.K = K) : CallR X (.builtin "isinstance") (rIsiT K) := hK ▸ call_isiT
def allK : List String := ["NoneType", "bool", "int", "str", "list", "tuple", "dict"]
def IsiK (T : String) : Prop := (allK.all fun k => (kitB k T).isSome) = true
theorem tyx_py {x : PyData} (d : Dq K H v x) (hg : okP x) : TyX K H v (.type (pyK x)) := by
  cases d with
  | ins _ _ _ => exact absurd rfl (hg _)
  | non => exact .base .non
  | bl b => exact .base (.bl _)
  | int i => exact .base (.int _)
  | str s => exact .base (.str _)
  | lst hs _ => exact tyx_list hs
  | tup hs _ => exact tyx_tup (SqT.of hs)
theorem isP_kit {x : PyData} {T : String} (h : IsiK T) : PySem.W.kitOne K (.type (pyK x)) (.type T) = some (isP x T) := by
  have hs : (kitB (pyK x) T).isSome = true := by
    refine (List.all_eq_true.mp h) _ ?_
    cases x <;> simp [pyK, allK]
  obtain ⟨b, hb⟩ := Option.isSome_iff_exists.mp hs
  have e : isP x T = b := by unfold isP; rw [hb]; rfl
  rw [e]
  exact kit_ty hb
theorem y_isPT2 {x : α} {p : Addr} {S T : String} (d : D K H v x) (hg : okP (toPy x)) (hp : H p = some (.tup [.ty S, .ty T])) (h1 : IsiK S) (h2 : IsiK T) (k : Q (.bl (isP (toPy x) S || (isP (toPy x) T || false))) H) : rIsiT K [v, .ref p] H Q :=
  ⟨v, p, _, .type (pyK (toPy x)), [.type S, .type T], _, rfl, hp, .cons (.ty S) (.cons (.ty T) .nil), tyx_py d hg, kitAny_or (isP_kit h1) (kitAny_or (isP_kit h2) kitAny_nil), k⟩
/-! data of a kind that is wanted -/
class Fr (α : Type) [Py α] where
  fr : PyData → Option α
  ok : ∀ d a, fr d = some a → d = toPy a
instance : Fr Int := ⟨fun d => match d with | .int i => some i | _ => none, fun d a h => by cases d <;> first | (cases h; rfl) | (cases h)⟩
instance : Fr Str := ⟨fun d => match d with | .str i => some i | _ => none, fun d a h => by cases d <;> first | (cases h; rfl) | (cases h)⟩
instance : Fr Bool := ⟨fun d => match d with | .bool i => some i | _ => none, fun d a h => by cases d <;> first | (cases h; rfl) | (cases h)⟩
def frAll (β : Type) [Py β] [Fr β] : List PyData → Option (List β)
  | [] => some []
  | d :: ds => match (Fr.fr d : Option β), frAll β ds with
    | some a, some as => some (a :: as)
    | _, _ => none
theorem frAll_ok {β : Type} [Py β] [Fr β] : ∀ {ds : List PyData} {as : List β}, frAll β ds = some as → ds = as.map Py.toPy
  | [], as, h => by cases h; rfl
  | d :: ds, as, h => by
    unfold frAll at h
    split at h
    · rename_i a as' e1 e2
      cases h
      rw [List.map_cons, ← frAll_ok e2, Fr.ok d a e1]
    · cases h
instance {β : Type} [Py β] [Fr β] : Fr (List β) := ⟨fun d => match d with | .list xs => frAll β xs | _ => none, fun d a h => by
  cases d <;> first | (cases h; done) | skip
  rename_i xs
  show PyData.list xs = .list (a.map Py.toPy)
  rw [frAll_ok (show frAll β xs = some a from h)]⟩
instance {β β' : Type} [Py β] [Fr β] [Py β'] [Fr β'] : Fr (β × β') := ⟨fun d => match d with
  | .tuple [x, y] => match (Fr.fr x : Option β), (Fr.fr y : Option β') with
    | some a, some b => some (a, b)
    | _, _ => none
  | _ => none, fun d p h => by
  split at h
  · rename_i x y
    split at h
    · rename_i a b e1 e2
      cases h
      rw [Fr.ok _ _ e1, Fr.ok _ _ e2]; rfl
    · cases h
  · cases h⟩
instance {β β' β'' : Type} [Py β] [Fr β] [Py β'] [Fr β'] [Py β''] [Fr β''] : Fr (P3 β β' β'') := ⟨fun d => match d with
  | .tuple [x, y, z] => match (Fr.fr x : Option β), (Fr.fr y : Option β'), (Fr.fr z : Option β'') with
    | some a, some b, some c => some ⟨a, b, c⟩
    | _, _, _ => none
  | _ => none, fun d p h => by
  split at h
  · rename_i x y z
    split at h
    · rename_i a b c e1 e2 e3
      cases h
      rw [Fr.ok _ _ e1, Fr.ok _ _ e2, Fr.ok _ _ e3]; rfl
    · cases h
  · cases h⟩
instance {β β' β'' γ' : Type} [Py β] [Fr β] [Py β'] [Fr β'] [Py β''] [Fr β''] [Py γ'] [Fr γ'] : Fr (P4 β β' β'' γ') := ⟨fun d => match d with
  | .tuple [x, y, z, u] => match (Fr.fr x : Option β), (Fr.fr y : Option β'), (Fr.fr z : Option β''), (Fr.fr u : Option γ') with
    | some a, some b, some c, some e => some ⟨a, b, c, e⟩
    | _, _, _, _ => none
  | _ => none, fun d p h => by
  split at h
  · rename_i x y z u
    split at h
    · rename_i a b c e e1 e2 e3 e4
      cases h
      rw [Fr.ok _ _ e1, Fr.ok _ _ e2, Fr.ok _ _ e3, Fr.ok _ _ e4]; rfl
    · cases h
  · cases h⟩
theorem y_fr {β : Type} [Py β] [Fr β] {x : PyData} {P : Prop} {f : β → W γ} (d : D K Ho v x) (hw : (W.bind (W.opt (Fr.fr x : Option β)) f).run Φ) (k : ∀ t, D K Ho v t → (f t).run Φ → P) : P := by
  obtain ⟨a, ea, hw⟩ := hw
  refine k a ?_ hw
  have e := Fr.ok x a ea
  show Dq K Ho v (toPy a)
  rw [← e]
  exact d
end
/-! xs.extend(ys), ys as it stands -/
theorem list_extendW (l : Addr) (items : Array Value) (n : Nat) (b : Addr) (items2 : Array Value) (n2 : Nat) (dd2 : Option Addr) (sl2 : Array (Option Value)) (hc0 : ¬(!items.isEmpty && Builtin.List.listTooLong (items.size + items2.size)) = true) (hc1 : items.size ≤ sizeLine) (hs2 : items.size + items2.size ≤ sizeLine + 1 := by seq_fits) :
    Meets (Builtin.«list.extend» ⟨[.ref l, .ref b], []⟩) (fun _ R s => s.heap.get? l = some { cls := .type "list", dict := none, data := .seq items n, slots := #[] } ∧ s.heap.get? b = some { cls := .type "list", dict := dd2, data := .seq items2 n2, slots := sl2 } ∧ R (.ok (.ret Value.none)) { s with heap := s.heap.update l (Obj.mapSeq fun x => x ++ items2), toks := s.toks }) :=
  .of_wp fun prog w A R s h => by
    obtain ⟨hp, g, d, tk, os⟩ := s; obtain ⟨hl, hb, h⟩ := h; have f1 := AutoSeq1.idx_int; have f2 := AutoSeq1.sub_tuple_tuple; have f3 := AutoSeq1.sub_list_list; have f4 := AutoSeq1.sub_tuple_list; have f5 := AutoSeq1.sub_list_tuple;
    have hz' : (items ++ items2).size ≤ sizeLine + 1 := by rw [Array.size_append]; exact hs2
    wp_walk using (wpAny_updateSeq hl rfl (hz := hc1) (_hz' := hz')), AutoSeq1.wpAny_loadPart' hl, AutoSeq1.wpAny_loadPart' hb; exact ⟨_, rfl, h⟩
def rExtendS (K : PySem.W.Frag) : V → List V → Hp → VK → Prop := fun x vs H Q => ∃ l b xs zs, x = .ref l ∧ vs = [.ref b] ∧ H l = some (.lst xs) ∧ SqL K H b zs ∧ xs.length + zs.length ≤ sizeLine ∧ Q .non (upd H l (.lst (xs ++ zs)))
theorem mt_extendS {X : Cx} : MtM X "list.extend" (rExtendS X.K) := by
  intro pins s σ H x vs v us Q I rx rv h
  obtain ⟨l, b, xs, zs, rfl, rfl, hH, hB, hz, q⟩ := h
  cases rx
  obtain ⟨u, rfl, ru⟩ := rv.one
  cases ru
  obtain ⟨z, its, n, r, hl, e⟩ := I.lstM hH
  obtain ⟨its2, r2, pl2, _⟩ := I.list hB
  have hl2 := r2.length
  obtain ⟨⟨cls2, dd2, data2, sl2⟩, ho2, hc2, n2, hd2⟩ := pl2.isList
  simp only at hc2 hd2
  subst hc2 hd2
  have hsz : its.toArray.size + its2.toArray.size ≤ sizeLine := by rw [List.size_toArray, List.size_toArray]; omega
  have hlong : ¬ (!its.toArray.isEmpty && Builtin.List.listTooLong (its.toArray.size + its2.toArray.size)) = true := by
    rw [notLongL hsz, Bool.and_false]
    exact Bool.false_ne_true
  refine call_meets F.slot_list_extend ⟨_, e, rfl⟩ F.entry_list_extend (F.args_list_extend_2 _ _)
    (list_extendW l its.toArray n b its2.toArray n2 dd2 sl2 hlong (by rw [List.size_toArray]; omega) (by omega)) ⟨e, ho2, ?_⟩
  refine ⟨.non, _, I.lset (its' := its ++ its2) hH e (by simp) (r.append r2) ?_, rfl, q⟩
  rw [List.length_append]
  omega
theorem zmt_extendS {X : Cx} {K : PySem.W.Frag} (hK : X.K = K) : MtM X "list.extend" (rExtendS K) := hK ▸ mt_extendS
section
variable {α γ : Type} [Py α] {K : PySem.W.Frag} {R : Grp} {H Ho : Hp} {Φ : γ → Prop} {Q : VK} {v w : V}
theorem g_extD {xs ys : List α} {g : Grp} {f : List α → W γ} (z : Zs (g ++ R) H Ho) (o : OL K Ho v xs g) (o2 : LV K (g ++ R) Ho w ys) (hw : (W.bind (exd xs ys) f).run Φ) (k : ∀ xs' g' H', Zs (g' ++ R) H' Ho → OL K Ho v xs' g' → (f xs').run Φ → Q .non H') : rExtendS K v [w] H Q := by
  obtain ⟨p, vs, rfl, d, rfl⟩ := o
  obtain ⟨q, us, rfl, d2, s2⟩ := LV.rd o2 z
  exact ⟨p, q, vs, us, rfl, rfl, z.head, s2, by rw [DL.len d, DL.len d2]; exact hw.1, k _ _ _ z.put ⟨p, _, rfl, d.append d2, rfl⟩ hw.2⟩
end
end Z

/-! # objects: their fields, their methods, how they are made -/
namespace Z
open PySem PySem.Spec PyProof.Rows L2
/-! fields by their places -/
theorem lk_zip : ∀ {ns : List Str} {vs : List V} {i : Nat} {f : Str} {v : V}, ns.Nodup → ns[i]? = some f → vs[i]? = some v → (ns.zip vs).lookup f = some v
  | [], _, _, _, _, _, h, _ => by cases h
  | _ :: _, [], _, _, _, _, _, h => by cases h
  | n :: ns, w :: vs, 0, f, v, _, h1, h2 => by
    cases h1
    cases h2
    rw [List.zip_cons_cons, List.lookup_cons, beq_self_eq_true]
  | n :: ns, w :: vs, i + 1, f, v, hn, h1, h2 => by
    have hm : f ∈ ns := List.mem_of_getElem? (show ns[i]? = some f from h1)
    have ne : f ≠ n := fun e => (List.nodup_cons.mp hn).1 (e ▸ hm)
    rw [List.zip_cons_cons, List.lookup_cons, beq_eq_false_iff_ne.mpr ne]
    exact lk_zip (List.nodup_cons.mp hn).2 h1 h2
theorem lk_none : ∀ {ns : List Str} {vs : List V} {f : Str}, f ∉ ns → (ns.zip vs).lookup f = none
  | [], _, _, _ => rfl
  | _ :: _, [], _, _ => rfl
  | n :: ns, w :: vs, f, h => by
    have ne : f ≠ n := fun e => h (by rw [e]; exact List.mem_cons_self)
    rw [List.zip_cons_cons, List.lookup_cons, beq_eq_false_iff_ne.mpr ne]
    exact lk_none fun m => h (List.mem_cons_of_mem _ m)
theorem put_zip : ∀ {ns : List Str} {vs : List V} {i : Nat} {f : Str} {v : V}, ns.Nodup → ns[i]? = some f → i < vs.length → putF f v (ns.zip vs) = ns.zip (vs.set i v)
  | [], _, _, _, _, _, h, _ => by cases h
  | _ :: _, [], _, _, _, _, _, h => by simp at h
  | n :: ns, w :: vs, 0, f, v, _, h1, _ => by
    cases h1
    show (if n = n then _ else _) = _
    rw [if_pos rfl]; rfl
  | n :: ns, w :: vs, i + 1, f, v, hn, h1, h2 => by
    have hm : f ∈ ns := List.mem_of_getElem? (show ns[i]? = some f from h1)
    have ne : ¬ n = f := fun e => (List.nodup_cons.mp hn).1 (e ▸ hm)
    show (if n = f then _ else (n, w) :: putF f v (ns.zip vs)) = (n, w) :: ns.zip (vs.set i v)
    rw [if_neg ne, put_zip (List.nodup_cons.mp hn).2 h1 (by simpa using h2)]
theorem put_new : ∀ {ns : List Str} {vs : List V} {f : Str} {v : V}, ns.Nodup → ns[vs.length]? = some f → putF f v (ns.zip vs) = ns.zip (vs ++ [v])
  | [], _, _, _, _, h => by simp at h
  | n :: ns, [], f, v, _, h => by
    cases h
    show [(n, v)] = _
    simp
  | n :: ns, w :: vs, f, v, hn, h => by
    have h : ns[vs.length]? = some f := h
    have hm : f ∈ ns := List.mem_of_getElem? h
    have ne : ¬ n = f := fun e => (List.nodup_cons.mp hn).1 (e ▸ hm)
    show (if n = f then _ else (n, w) :: putF f v (ns.zip vs)) = (n, w) :: ns.zip (vs ++ [v])
    rw [if_neg ne, put_new (List.nodup_cons.mp hn).2 h]
/-- a class of the text -/
structure CF (K : PySem.W.Frag) (q : Addr) (cn : Str) (ns : List Str) : Prop where
  at_ : PySem.W.nsIn K mainGlobals cn = some (some (.ref q))
  cl : Cls K q
  na : ∀ f ∈ ns, NoAttr K q f
  nd : ns.Nodup
  few : ns.length < 1000
theorem CF.eq {K : PySem.W.Frag} {q C : Addr} {cn : Str} {ns : List Str} (c : CF K q cn ns) (h : PySem.W.nsIn K mainGlobals cn = some (some (.ref C))) : q = C := by
  have e := c.at_.symm.trans h
  cases e
  rfl
theorem rowG_app {gs : List Grp} {R : Grp} : rowG gs [] ++ R = rowG gs R := by rw [rowG_eq, rowG_eq, List.append_nil]
def FldK (K : PySem.W.Frag) (Q : VK) (f : Str) (x : V) (H : Hp) : Prop := ∃ a C dx fs v, x = .ref a ∧ H a = some (.ins C dx fs) ∧ Cls K C ∧ NoAttr K C f ∧ fs.lookup f = some v ∧ Q v H
def SFldK (K : PySem.W.Frag) (N : Hp → Prop) (f : Str) (y x : V) (H : Hp) : Prop := ∃ a C dx fs, x = .ref a ∧ H a = some (.ins C dx fs) ∧ Cls K C ∧ NoAttr K C f ∧ fs.length < 1000 ∧ N (upd H a (.ins C dx (putF f y fs)))
def MetK (C : Addr) (m : Str) (G : V → Hp → Prop) (x : V) (H : Hp) : Prop := ∃ a dx fs, x = .ref a ∧ H a = some (.ins C dx fs) ∧ fs.lookup m = none ∧ G x H
def MkK (C : Addr) (G : V → Hp → Prop) (H : Hp) : Prop := ∀ x dx, H x = none → H dx = none → dx ≠ x → G (.ref x) (upd (upd H dx (.own x)) x (.ins C dx []))
def tMethS (C : Addr) (m : Str) (sp : Sp) (E : L2.St → XK) (ta : TE) (t : TA) : TE := fun σ H Q => ta σ H fun x H1 => MetK C m (fun x H1 => t σ H1 fun vs H2 => sp (x :: vs) H2 Q (E σ)) x H1
def tMakeS (C : Addr) (sp : Sp) (E : L2.St → XK) (t : TA) : TE := fun σ H Q => t σ H fun vs H1 => MkK C (fun x H2 => sp (x :: vs) H2 (fun v H3 => v = .non ∧ Q x H3) (E σ)) H1
section
variable {X : Cx} {CX : CXT} {k : Nat} {f C : Addr} {fd : FuncData} {ps : List Str} {sp : Sp} {E : L2.St → XK} {x m : Str} {p pos apos : Pos} {e o : Expr} {es : List Expr} {ta : TE} {t : TA}
theorem passAt0 {σ : L2.St} : PassesAt CX0 X σ (E σ) := fun pins H s e s' I c => pass0 pins σ H s e s' I c
theorem pe_methS' {pl : Sem Bool} (he : PE X o ta) (c : Cls X.K C) (hm : Meth X.K C m f) (F : FnOk X.prog X.w X.K X.mg X.base CX k f fd ps sp) (hr : Room k X.A) (hb : Binds X.K fd ps []) (hx : ∀ σ, PassesAt CX X σ (E σ)) (ha : PA X (e :: es) t)
    (hst : starEach (e :: es) X.env = (false, eval e X.env) :: starEach es X.env := by rfl) (hpl : (backTo pos (starEach es X.env)).any (·.1) = false := by rfl)
    (ht : eval (.Call (.Attribute o m apos) (e :: es) [] pos) X.env = (do
      let ov ← eval o X.env
      standAt apos.atName
      let (f, first) ← holding [ov] (getMethod ov m pl)
      callWith pos f first (backTo pos (starEach (e :: es) X.env)) (backToKw pos (keywordEach [] X.env))) := by rfl) :
    PE X (.Call (.Attribute o m apos) (e :: es) [] pos) (tMethS C m sp E ta t) := by
  refine ⟨fun pins s σ H Q I h => ?_⟩
  refine PySem.W.methodCall_KW (pl := pl) (thn (he.run pins s σ H _ I h) fun u s1 ⟨x, H1, I1, rx, a, dx, fs, ex, ea, l, q⟩ => ?_) ht
  subst ex
  obtain rfl : u = Value.ref a := rx
  refine getmeth_ok I1 ea c hm l ?_
  refine PySem.W.callWith_K (first := [.ref a]) (h₀ := X.base) I.ok.mod.kin hm.kp (thn (ha.run pos pins s1 σ H1 _ I1 q) fun us s2 ⟨vs, H2, I2, r, q2⟩ => ⟨I2.kIn, ?_⟩) hst hpl
  exact run_fnS (us := .ref a :: us) (vs := .ref a :: vs) F hr hb (hx σ) I2 (.cons rfl r) q2
theorem pe_methS0' {pl : Sem Bool} (he : PE X o ta) (c : Cls X.K C) (hm : Meth X.K C m f) (F : FnOk X.prog X.w X.K X.mg X.base CX k f fd ps sp) (hr : Room k X.A) (hb : Binds X.K fd ps []) (hx : ∀ σ, PassesAt CX X σ (E σ))
    (ht : eval (.Call (.Attribute o m apos) [] [] pos) X.env = (do
      let ov ← eval o X.env
      standAt apos.atName
      let (f, first) ← holding [ov] (getMethod ov m pl)
      callWith pos f first (backTo pos (starEach [] X.env)) (backToKw pos (keywordEach [] X.env))) := by rfl) :
    PE X (.Call (.Attribute o m apos) [] [] pos) (tMethS C m sp E ta tNil) := by
  refine ⟨fun pins s σ H Q I h => ?_⟩
  refine PySem.W.methodCall_KW (pl := pl) (thn (he.run pins s σ H _ I h) fun u s1 ⟨x, H1, I1, rx, a, dx, fs, ex, ea, l, q⟩ => ?_) ht
  subst ex
  obtain rfl : u = Value.ref a := rx
  refine getmeth_ok I1 ea c hm l ?_
  exact PySem.W.callWith_K0 (first := [.ref a]) I1.kIn hm.kp (run_fnS (us := [.ref a]) (vs := [.ref a]) F hr hb (hx σ) I1 (.cons rfl .nil) q)
theorem run_makeS {pins : List (Addr × Obj)} {σ : L2.St} {H : Hp} {s : Shared} {Q : VK} {us : List Value} {vs : List V} (M : Mk X.K C f) (F : FnOk X.prog X.w X.K X.mg X.base CX k f fd ps sp) (hr : Room (k + 1) X.A) (hb : Binds X.K fd ps [])
    (hx : PassesAt CX X σ (E σ)) (I : Inv X pins σ H s) (r : Vals vs us) (h : MkK C (fun x H2 => sp (x :: vs) H2 (fun v H3 => v = .non ∧ Q x H3) (E σ)) H) :
    wpAny (model X.prog X.w) X.A (call (.ref C) us) (EP X pins σ Q) X.xe s := by
  have hq := h (s.heap.objs.size + 1) s.heap.objs.size (I.hok.fresh (Nat.le_succ _)) (I.hok.fresh (Nat.le_refl _)) (Nat.ne_of_lt (Nat.lt_succ_self _))
  have I2 := Inv.made (C := C) I
  have r2 : Vals (V.ref (s.heap.objs.size + 1) :: vs) (Value.ref (s.heap.objs.size + 1) :: us) := .cons rfl r
  have hl : (Value.ref (s.heap.objs.size + 1) :: us ++ []).length = ps.length := by
    rw [List.append_nil]
    have e := r2.length
    rw [F.len _ _ _ _ hq] at e
    exact e.symm
  have hb' := hb _ (Value.ref (s.heap.objs.size + 1) :: us) I2.kIn hl
  rw [List.append_nil] at hb'
  refine wpAny_call (make_map (f := f) I.kIn M.makes M.init (beq_iff_eq.mp M.fn) (codeAny_mono (F.run _ X.stack _ _ ⟨Value.ref (s.heap.objs.size + 1) :: us, []⟩ (Value.ref (s.heap.objs.size + 1) :: us) _ _ (E σ) (hr.make C us [])
    (I2.env0.make C us []) hb' r2 hq) fun r s' hq' => ?_))
  cases r with
  | error e => exact hx pins _ _ e s' I2 hq'
  | ok fl =>
    cases fl with
    | ret u =>
      obtain ⟨v, H', I3, rv, ev, q3⟩ := I2.after hq'
      subst ev
      exact ⟨rv, ⟨V.ref (s.heap.objs.size + 1), H', I3, rfl, q3⟩⟩
    | next => exact False.elim hq'
    | brk => exact False.elim hq'
    | cont => exact False.elim hq'
theorem pe_makeS (M : Mk X.K C f) (F : FnOk X.prog X.w X.K X.mg X.base CX k f fd ps sp) (hr : Room (k + 1) X.A) (hg : Gl X x) (hm : X.mg x = some (.ref C)) (hb : Binds X.K fd ps []) (hx : ∀ σ, PassesAt CX X σ (E σ))
    (ha : PA X (e :: es) t) (hdb : (x == ("__debug__" : Str)) = false := by decide) (he : starEach (e :: es) X.env = (false, eval e X.env) :: starEach es X.env := by rfl) (hpl : (backTo pos (starEach es X.env)).any (·.1) = false := by rfl) :
    PE X (.Call (.Name x p) (e :: es) [] pos) (tMakeS C sp E t) := by
  refine ⟨fun pins s σ H Q I h => ?_⟩
  refine wpAny_Call_Name_kw (ld_glob I hg hm ?_ hdb)
  refine PySem.W.callWith_K (h₀ := X.base) I.ok.mod.kin M.kp (thn (ha.run pos pins s σ H _ I h) fun us s1 ⟨vs, H1, I1, r, q⟩ => ⟨I1.kIn, ?_⟩) he hpl
  exact run_makeS M F hr hb (hx σ) I1 r q
theorem pe_makeS0 (M : Mk X.K C f) (F : FnOk X.prog X.w X.K X.mg X.base CX k f fd ps sp) (hr : Room (k + 1) X.A) (hg : Gl X x) (hm : X.mg x = some (.ref C)) (hb : Binds X.K fd ps []) (hx : ∀ σ, PassesAt CX X σ (E σ))
    (hdb : (x == ("__debug__" : Str)) = false := by decide) : PE X (.Call (.Name x p) [] [] pos) (tMakeS C sp E tNil) := by
  refine ⟨fun pins s σ H Q I h => ?_⟩
  refine wpAny_Call_Name_kw (ld_glob I hg hm ?_ hdb)
  exact PySem.W.callWith_K0 I.kIn M.kp (run_makeS (us := []) M F hr hb (hx σ) I .nil h)
theorem zpe_fld {K : PySem.W.Frag} {fl : Str} (hK : X.K = K) (he : PE X e ta) (hb : attributeBase e fl X.env (eval e X.env) = eval e X.env) : PE X (.Attribute e fl pos) (tFld K ta fl) := hK ▸ pe_fld he hb
theorem zps_fld {K : PySem.W.Frag} {fl : Str} {value : Expr} {tv : TE} {pos' : Pos} (hK : X.K = K) (ha : PE X o ta) (hv : PE X value tv) (hs : swapsWith value (some (.Attribute o fl pos')) pos.line X.env = pure false) : PS X (.Assign [.Attribute o fl pos'] value pos) (sFld K ta tv fl) := hK ▸ ps_fld ha hv hs
end
section
variable {K : PySem.W.Frag} {rs R : Grp} {H Ho : Hp} {σ : L2.St} {Q : VK} {QH : Hp → Prop} {v y : V} {a dx q : Addr} {cn f m : Str} {ns : List Str} {vs : List V} {i : Nat} {ta tv : TE} {t : TA} {u : TS} {D : Ends} {C : Addr} {sp : Sp} {E : L2.St → XK} {G : V → Hp → Prop}
theorem y_fld (k : ta σ H fun x H1 => FldK K Q f x H1) : tFld K ta f σ H Q := k
theorem y_sfld (k : tv σ H fun y H1 => LetV (fun y => ta σ H1 fun x H2 => SFldK K (fun H3 => u D σ H3) f y x H2) y) : tSeq (sFld K ta tv f) u D σ H := k
theorem y_meth (k : ta σ H fun x H1 => MetK C m (fun x H1 => t σ H1 fun vs H2 => sp (x :: vs) H2 Q (E σ)) x H1) : tMethS C m sp E ta t σ H Q := k
theorem y_make (k : t σ H fun vs H1 => MkK C (fun x H2 => sp (x :: vs) H2 (fun v H3 => v = .non ∧ Q x H3) (E σ)) H1) : tMakeS C sp E t σ H Q := k
theorem o_fld (c : CF K q cn ns) (hm : ∀ r ∈ ([(a, HO.ins q dx (ns.zip vs))] : Grp), r ∈ rs) (z : Zs rs H Ho) (hn : ns[i]? = some f) (hv : vs[i]? = some v) (k : Q v H) : FldK K Q f (.ref a) H :=
  ⟨a, q, dx, _, v, rfl, (z.rt _ (hm _ List.mem_cons_self)).1, c.cl, c.na f (List.mem_of_getElem? hn), lk_zip c.nd hn hv, k⟩
/-- what an instance that stands for good is as data -/
def pyIns (cn : Str) (ns : List Str) (ds : List PyData) : PyData := .dict [(.str cn, .list (ns.map .str)), (.none, .tuple ds)]
theorem strs_inj : ∀ {ns ms : List Str}, ns.map PyData.str = ms.map PyData.str → ns = ms
  | [], [], _ => rfl
  | [], _ :: _, h => by cases h
  | _ :: _, [], h => by cases h
  | n :: ns, m :: ms, h => by
    rw [List.map_cons, List.map_cons] at h
    injection h with h1 h2
    injection h1 with h1
    rw [h1, strs_inj h2]
theorem dq_ins {d : PyData} {ds : List PyData} (h : Dq K Ho v d) (e : d = pyIns cn ns ds) : ∃ a C dx vs, v = .ref a ∧ PySem.W.nsIn K mainGlobals cn = some (some (.ref C)) ∧ Ho a = some (.ins C dx (ns.zip vs)) ∧ DqAll K Ho vs ds := by
  cases h with
  | @ins a dx C cn' ns' vs ds' hC hs hd =>
    unfold pyIns at e
    injection e with e
    injection e with e1 e2
    injection e1 with e3 e4
    injection e3 with e3
    injection e4 with e4
    injection e2 with e5 _
    injection e5 with _ e6
    injection e6 with e6
    have e7 := strs_inj e4
    subst e3 e7 e6
    exact ⟨a, C, dx, vs, rfl, hC, hs, hd⟩
  | _ => cases e
theorem o_fldD {α β : Type} [Py α] [Py β] {x : α} {w : β} {ds : List PyData} (c : CF K q cn ns) (d : Z.D K Ho v x) (hx : toPy x = pyIns cn ns ds) (z : Zs rs H Ho) (hn : ns[i]? = some f) (hd : ds[i]? = some (toPy w)) (k : ∀ u, Z.D K Ho u w → Q u H) : FldK K Q f v H := by
  obtain ⟨a, C, dx, vs, rfl, hC, hs, ha⟩ := dq_ins d hx
  obtain rfl := c.eq hC
  obtain ⟨u, hu, du⟩ := dpAll_get ha hd
  exact ⟨a, q, dx, _, u, rfl, z.le _ _ hs, c.cl, c.na f (List.mem_of_getElem? hn), lk_zip c.nd hn hu, k u du⟩
theorem len_zip_few {vs : List V} (c : CF K q cn ns) : (ns.zip vs).length < 1000 := by
  rw [List.length_zip]
  have := c.few
  omega
/-- a field gets a value -/
theorem o_sfld (c : CF K q cn ns) (z : Zs ([(a, HO.ins q dx (ns.zip vs))] ++ R) H Ho) (hn : ns[i]? = some f) (hi : i < vs.length) (k : ∀ H', Zs ([(a, HO.ins q dx (ns.zip (vs.set i y)))] ++ R) H' Ho → QH H') : SFldK K QH f y (.ref a) H :=
  ⟨a, q, dx, _, rfl, Zs.head z, c.cl, c.na f (List.mem_of_getElem? hn), len_zip_few c, by
    rw [put_zip c.nd hn hi]
    exact k _ (Zs.put z)⟩
theorem o_nfld (c : CF K q cn ns) (z : Zs ([(a, HO.ins q dx (ns.zip vs))] ++ R) H Ho) (hn : ns[vs.length]? = some f) (k : ∀ H', Zs ([(a, HO.ins q dx (ns.zip (vs ++ [y])))] ++ R) H' Ho → QH H') : SFldK K QH f y (.ref a) H :=
  ⟨a, q, dx, _, rfl, Zs.head z, c.cl, c.na f (List.mem_of_getElem? hn), len_zip_few c, by
    rw [put_new c.nd hn]
    exact k _ (Zs.put z)⟩
theorem o_met (hm : ∀ r ∈ ([(a, HO.ins q dx (ns.zip vs))] : Grp), r ∈ rs) (z : Zs rs H Ho) (hn : m ∉ ns) (k : G (.ref a) H) : MetK q m G (.ref a) H :=
  ⟨a, dx, _, rfl, (z.rt _ (hm _ List.mem_cons_self)).1, lk_none hn, k⟩
theorem o_mk (z : Zs rs H Ho) (k : ∀ a dx H' Ho', Same Ho Ho' → Zs ([(a, HO.ins C dx (ns.zip []))] ++ rs) H' Ho' → G (.ref a) H') : MkK C G H := fun x dx hx hd ne => by
  have e : Same Ho (upd Ho dx (.own x)) := Same.new (z.free hd)
  refine k x dx _ _ e ?_
  have z1 : Zs rs (upd H dx (.own x)) (upd Ho dx (.own x)) := z.alloc hd
  have hx' : (upd H dx (.own x)) x = none := by rw [upd_ne (fun e => ne e.symm)]; exact hx
  have z2 := z1.root (o := HO.ins C dx (ns.zip [])) hx'
  rw [List.zip_nil_right] at z2 ⊢
  exact z2
end
section
variable {β γ : Type} {R : Grp} {H Ho : Hp} {Φ : γ → Prop}
theorem h_nmG {P : β → Prop} {X : Prop} {e : β} {f : β → W γ} (hw : (W.bind (W.ret e) f).run Φ) (o : P e) (k : ∀ x, P x → (f x).run Φ → X) : X := k e o hw
theorem l_oG {P : V → β → Grp → Prop} {G : V → Prop} {v : V} {e : β} {g : Grp} {f : β → W γ} (hw : (W.bind (W.ret e) f).run Φ) (z : Zs (g ++ R) H Ho) (o : P v e g) (k : ∀ x v g, Zs (g ++ R) H Ho → P v x g → (f x).run Φ → G v) : LetV G v := k e v g z o hw
end
/-- a method that stands at f -/
structure MCal (P : Program) (w : World) (K : PySem.W.Frag) (mg : Str → Option Value) (base : Heap) (CX : CXT) (q : Addr) (m : Str) (ps : List Str) (k : Nat) (sp : Sp) (f : Addr) (fd : FuncData) : Prop where
  ok : FnOk P w K mg base CX k f fd ps sp
  me : Meth K q m f
  b : Binds K fd ps []
/-- a class's __init__ -/
structure KCal (P : Program) (w : World) (K : PySem.W.Frag) (mg : Str → Option Value) (base : Heap) (CX : CXT) (q : Addr) (cn : Str) (ps : List Str) (k : Nat) (sp : Sp) (f : Addr) (fd : FuncData) : Prop where
  ok : FnOk P w K mg base CX k f fd ps sp
  mk_ : Mk K q f
  g : mg cn = some (.ref q)
  b : Binds K fd ps []
end Z

/-! # objects whose class has its own len, str, ==; isinstance; a dict's copy -/
namespace NeX
open PySem PySem.Spec PyProof.Rows PySem.SeqAt PySem.W Builtin
section
variable {M : Model} {prog : Program} {w : World} {A : Around} {E : Value → Shared → Prop} {s : Shared} {K : PySem.W.Frag} {x y C f : Addr} {ox oy : Obj} {od od' : Option Obj}
theorem ifBound_objNe {args : List Value} {Q : Option Value → Shared → Prop} (X : K.In s.heap) (I : PySem.W.InstAt s.heap x ox C od) (hs : PySem.W.findIn K (.ref C) "__ne__" = some (some (.builtin "object.__ne__")))
    (h : wpAny M A (call (.builtin "object.__ne__") (.ref x :: args)) (fun v => Q (some v)) E s) : wpAny M A (callSpecialIfBound? (.ref x) "__ne__" args) Q E s := by
  simp only [callSpecialIfBound?, bindSpecialIfBound?]
  refine wpAny_holding (wpAny_bind (wpAny_bind (wpAny_bind (I.type.here ((PySem.W.looks_findIn X hs).here ?_)))))
  refine wpAny_bind (wpAny_askSetting (wpAny_ite ?_))
  have fin : wpAny M A (call (.builtin "object.__ne__") ([.ref x] ++ args) >>= fun v => pure (some v)) Q E s := wpAny_bind (wpAny_mono h (fun v s' h' => wpAny_pure h') fun _ _ h' => h')
  split
  · exact wpAny_bind (wpAny_of_eq (F.cmp_object.ne.bind _) (wpAny_pure (by exact fin)))
  · exact wpAny_tryCatch (wpAny_bind (wpAny_of_eq (F.cmp_object.ne.bind _) (wpAny_pure (by exact fin))))
theorem entry_ne {Q : Fin → Shared → Prop} (hu : A.units < cLine) (X : K.In s.heap) (I : PySem.W.InstAt s.heap x ox C od) (hs : PySem.W.findIn K (.ref C) "__eq__" = some (some (.ref f))) (hf : PySem.W.isFn K (.ref f) = true)
    (hcall : wpAny (model prog w) A (call (.ref f) [.ref x, .ref y]) (fun v s' => ∃ b, v = .bool b ∧ Q (.done (.ret (.bool (!b)))) s') E s) : wpAny (model prog w) A (Builtin.«object.__ne__» ⟨[.ref x, .ref y], []⟩) Q E s := by
  unfold Builtin.«object.__ne__»
  repeat (first
    | with_reducible refine wpAny_cRoomFor hu ?_
    | (refine wpAny_bind (m := callSpecialIfBound? (.ref x) (Str.ofString "__eq__") [.ref y])
        (PySem.W.ifBound_K X I hs hf (wpAny_mono hcall (fun r s' hr => by
          obtain ⟨b, rfl, hq⟩ := hr
          repeat (first | exact hq | exact wpAny_pure hq | exact wpAny_truthy_bool hq | (refine wpAny_bind (m := truthy (.bool _)) (wpAny_truthy_bool ?_)) | wp_step)) fun _ _ e => e)))
    | wp_step)
theorem ne_K {Q : Value → Shared → Prop} (hu : A.units < cLine) (hu1 : A.in1.units < cLine) (X : K.In s.heap) (I : PySem.W.InstAt s.heap x ox C od) (J : PySem.W.InstAt s.heap y oy C od')
    (hne : PySem.W.findIn K (.ref C) "__ne__" = some (some (.builtin "object.__ne__"))) (hm : PySem.W.mroIn K C (.type "object") = some true)
    (hs : PySem.W.findIn K (.ref C) "__eq__" = some (some (.ref f))) (hf : PySem.W.isFn K (.ref f) = true)
    (h : wpAny (model prog w) A.in1 (call (.ref f) [.ref x, .ref y]) (fun v s' => ∃ b, v = .bool b ∧ Q (.bool (!b)) s') E s) : wpAny (model prog w) A (richCompare .NotEq (.ref x) (.ref y)) Q E s := by
  have one : wpAny (model prog w) A (tryCompare (.ref x) "__ne__" (.ref y)) (fun r s' => ∃ b, r = some (.bool b) ∧ Q (.bool b) s') E s := by
    unfold tryCompare
    refine wpAny_bind (ifBound_objNe X I hne (wpAny_call (codeAny_call_builtin F.cmp_object.ne.plain F.cmpEntry_ne (PySem.W.check_slot F.cmpKind_ne F.cmpSplit_ne (I.type.andThen (PySem.W.looks_mroIn X hm)) (F.cmpArgs_ne _ _) (entry_ne hu1 X I hs hf (wpAny_mono h (fun v s' hv => ?_) fun _ _ e => e))))))
    obtain ⟨b, rfl, hq⟩ := hv
    first | exact ⟨b, rfl, wpAny_pure ⟨_, rfl, hq⟩⟩ | exact ⟨b, rfl, wpAny_pure (wpAny_pure ⟨_, rfl, hq⟩)⟩
  unfold richCompare
  simp only [oneThing_ref, cmpInfo_NotEq]
  refine wpAny_holding (wpAny_bind (wpAny_cRoomFor hu ?_))
  refine wpAny_bind (I.type.here (wpAny_bind (J.type.here ?_)))
  split
  · rename_i q
    exact absurd q (by simp)
  · refine wpAny_bind (wpAny_pure ?_)
    simp only [Bool.false_eq_true, if_false]
    refine wpAny_bind (wpAny_mono one (fun r s' z => ?_) fun _ _ e => e)
    obtain ⟨v, rfl, hq⟩ := z
    exact wpAny_pure hq
end
end NeX
namespace Z
open PySem PySem.Spec PyProof.Rows L2
section
variable {X : Cx} {pins : List (Addr × Obj)} {σ : L2.St} {H : Hp} {s : Shared} {C f : Addr} {fd : FuncData} {ps : List Str} {sp : Sp} {k : Nat}
theorem run_atS {A : Around} {E : XK} {Q : VK} {us : List Value} {vs : List V} (F : FnOk X.prog X.w X.K X.mg X.base CX0 k f fd ps sp) (hr : Room k A) (e0 : Env0 X.prog X.w X.K X.mg X.base A X.stack s H) (hb : Binds X.K fd ps []) (I : Inv X pins σ H s) (r : Vals vs us) (h : sp vs H Q E) :
    wpAny (model X.prog X.w) A (call (.ref f) us) (EP X pins σ Q) X.xe s := by
  have hl : us.length = ps.length := by rw [← r.length]; exact F.len _ _ _ _ h
  have b := hb s us I.kIn (by rw [List.append_nil]; exact hl)
  rw [List.append_nil] at b
  refine wpAny_call (codeAny_mono (F.run A X.stack s H ⟨us, []⟩ us vs Q E hr e0 b r h) fun r s' hq => ?_)
  cases r with
  | error e => exact pass0 pins σ H s e s' I hq
  | ok fl =>
    cases fl with
    | ret u => exact I.after hq
    | next => exact False.elim hq
    | brk => exact False.elim hq
    | cont => exact False.elim hq
def rLenO (C : Addr) (sp : Sp) : List V → Hp → VK → Prop := fun xs H Q => ∃ a dx fs, xs = [.ref a] ∧ H a = some (.ins C dx fs) ∧ sp [.ref a] H (fun z H' => ∃ n : Int, z = .int n ∧ 0 ≤ n ∧ n < 2 ^ 63 ∧ Q (.int n) H') E0
theorem call_lenO (hm : Meth X.K C "__len__" f) (F : FnOk X.prog X.w X.K X.mg X.base CX0 k f fd ps sp) (hr : Room (k + 1) X.A) (hb : Binds X.K fd ps []) : CallR X (.builtin "len") (rLenO C sp) := by
  intro pins s σ H xs us Q I r h
  obtain ⟨a, dx, fs, rfl, ha, q⟩ := h
  obtain ⟨u, rfl, ru⟩ := vals1 r
  cases (show u = Value.ref a from ru)
  obtain ⟨mA, J, _⟩ := ins_get I.hok ha
  obtain ⟨od, J, _⟩ := J.look
  obtain ⟨m, hF⟩ := I.fr
  refine PySem.W.len_K hF I.ok.mod.kin J hm.at_ hm.fn (wpAny_mono (run_atS (us := [.ref a]) (vs := [.ref a]) F hr.in1 I.env0.in1 hb I (.cons rfl .nil) q) (fun w s' z => ?_) fun _ _ x => x)
  obtain ⟨z', H', I', rz, n, en, n0, n1, qz⟩ := z
  subst en
  obtain ⟨t, e⟩ := (show ∃ t, w = Value.int n t from rz)
  cases e
  exact ⟨⟨n0, n1⟩, .int n, H', I'.tok _, ⟨_, rfl⟩, qz⟩
def rStrO (C : Addr) (sp : Sp) : List V → Hp → VK → Prop := fun xs H Q => ∃ a dx fs, xs = [.ref a] ∧ H a = some (.ins C dx fs) ∧ sp [.ref a] H (fun z H' => ∃ y : Str, z = .str y ∧ Q (.str y) H') E0
theorem call_strO (hm : Meth X.K C "__str__" f) (F : FnOk X.prog X.w X.K X.mg X.base CX0 k f fd ps sp) (hr : Room (k + 2) X.A) (hb : Binds X.K fd ps []) : CallR X (.type "str") (rStrO C sp) := by
  intro pins s σ H xs us Q I r h
  obtain ⟨a, dx, fs, rfl, ha, q⟩ := h
  obtain ⟨u, rfl, ru⟩ := vals1 r
  cases (show u = Value.ref a from ru)
  obtain ⟨mA, J, _⟩ := ins_get I.hok ha
  obtain ⟨od, J, _⟩ := J.look
  have hr2 : Room k X.A.in1.in1 := (show Room (k + 1) X.A.in1 from Room.in1 hr).in1
  refine PySem.W.kso_call hr2.units0 I.kIn J hm.at_ hm.fn (wpAny_mono (run_atS (us := [.ref a]) (vs := [.ref a]) F hr2 I.env0.in1.in1 hb I (.cons rfl .nil) q) (fun w s' z => ?_) fun _ _ x => x)
  obtain ⟨z', H', I', rz, y, en, qz⟩ := z
  subst en
  obtain ⟨t, e⟩ := (show ∃ t, w = Value.str y t from rz)
  cases e
  exact ⟨.str y, H', I', ⟨t, rfl⟩, qz⟩
def rEqO (C : Addr) (sp : Sp) : R2 := fun x y H Q => ∃ a b dx dy fs gs, x = .ref a ∧ y = .ref b ∧ H a = some (.ins C dx fs) ∧ H b = some (.ins C dy gs) ∧ sp [x, y] H Q E0
theorem op_eqO (hm : Meth X.K C "__eq__" f) (F : FnOk X.prog X.w X.K X.mg X.base CX0 k f fd ps sp) (hr : Room k X.A) (hb : Binds X.K fd ps []) : OpR X (compareOp .Eq) (rEqO C sp) := by
  intro pins s σ H x y v u Q I rx ry h
  obtain ⟨a, b, dx, dy, fs, gs, rfl, rfl, ha, hb', q⟩ := h
  cases (show v = Value.ref a from rx)
  cases (show u = Value.ref b from ry)
  obtain ⟨mA, J, _⟩ := ins_get I.hok ha
  obtain ⟨mB, J', _⟩ := ins_get I.hok hb'
  obtain ⟨od, J, _⟩ := J.look
  obtain ⟨od', J', _⟩ := J'.look
  obtain ⟨m, hF⟩ := I.fr
  show wpAny (model X.prog X.w) X.A (richCompare .Eq (.ref a) (.ref b)) (EP X pins σ Q) X.xe s
  refine PySem.W.cmp_K (op := .Eq) (tb := .ref C) hr.units0 hF I.ok.mod.kin J J'.type (by simp [PySem.W.notFirst]) hm.at_ hm.fn ?_
  refine wpAny_mono (run_atS (us := [.ref a, .ref b]) (vs := [.ref a, .ref b]) F hr I.env0 hb I (.cons rfl (.cons rfl .nil)) q) (fun w s' z => ?_) fun _ _ x => x
  obtain ⟨z', H', I', rz, qz⟩ := z
  exact SlX.cmpback rz ⟨z', H', I', rz, qz⟩
end
/-- what != asks of a class -/
structure NI (K : PySem.W.Frag) (q : Addr) : Prop where
  ne : PySem.W.findIn K (.ref q) "__ne__" = some (some (.builtin "object.__ne__"))
  mo : PySem.W.mroIn K q (.type "object") = some true
section
variable {X : Cx} {C f : Addr} {fd : FuncData} {ps : List Str} {sp : Sp} {k : Nat}
def rNeO (C : Addr) (sp : Sp) : R2 := fun x y H Q => ∃ a b dx dy fs gs, x = .ref a ∧ y = .ref b ∧ H a = some (.ins C dx fs) ∧ H b = some (.ins C dy gs) ∧ sp [x, y] H (fun z H' => ∃ t : Bool, z = .bl t ∧ Q (.bl (!t)) H') E0
theorem op_neO (ni : NI X.K C) (hm : Meth X.K C "__eq__" f) (F : FnOk X.prog X.w X.K X.mg X.base CX0 k f fd ps sp) (hr : Room (k + 1) X.A) (hb : Binds X.K fd ps []) : OpR X (compareOp .NotEq) (rNeO C sp) := by
  intro pins s σ H x y v u Q I rx ry h
  obtain ⟨a, b, dx, dy, fs, gs, rfl, rfl, ha, hb', q⟩ := h
  cases (show v = Value.ref a from rx)
  cases (show u = Value.ref b from ry)
  obtain ⟨mA, J, _⟩ := ins_get I.hok ha
  obtain ⟨mB, J', _⟩ := ins_get I.hok hb'
  obtain ⟨od, J, _⟩ := J.look
  obtain ⟨od', J', _⟩ := J'.look
  show wpAny (model X.prog X.w) X.A (richCompare .NotEq (.ref a) (.ref b)) (EP X pins σ Q) X.xe s
  refine NeX.ne_K hr.units0 hr.in1.units0 I.kIn J J' ni.ne ni.mo hm.at_ hm.fn (wpAny_mono (run_atS (us := [.ref a, .ref b]) (vs := [.ref a, .ref b]) F hr.in1 I.env0.in1 hb I (.cons rfl (.cons rfl .nil)) q) (fun w s' z => ?_) fun _ _ x => x)
  obtain ⟨z', H', I', rz, t, et, qz⟩ := z
  subst et
  cases (show w = Value.bool t from rz)
  exact ⟨t, rfl, .bl (!t), H', I', rfl, qz⟩
end
/-- what isinstance asks of a class -/
structure CI (K : PySem.W.Frag) (q : Addr) : Prop where
  ca : PySem.W.findIn K (.ref q) "__class__" = some (some (.builtin "object.__class__"))
  cn : PySem.W.specialIn K (.builtin "object.__class__") "__get__" = some (some (.builtin "getset_descriptor.__get__"))
  ct : PySem.W.takesIn K (.builtin "object.__class__") = some true
  cm : PySem.W.mroIn K q (.type "object") = some true
  kt : PySem.W.kitOne K (.ref q) (.ref q) = some true
section
variable {K : PySem.W.Frag} {H Ho : Hp} {R : Grp} {Q : VK} {C q : Addr} {v w : V} {sp : Sp} {m : Str} {cn : Str} {ns : List Str} {α : Type} [Py α]
theorem y_lenO (k : MetK C "__len__" (fun x H => sp [x] H (fun z H' => ∃ n : Int, z = .int n ∧ 0 ≤ n ∧ n < 2 ^ 63 ∧ Q (.int n) H') E0) v H) : rLenO C sp [v] H Q := by
  obtain ⟨a, dx, fs, rfl, h, _, k⟩ := k
  exact ⟨a, dx, fs, rfl, h, k⟩
theorem y_strO (k : MetK C "__str__" (fun x H => sp [x] H (fun z H' => ∃ y : Str, z = .str y ∧ Q (.str y) H') E0) v H) : rStrO C sp [v] H Q := by
  obtain ⟨a, dx, fs, rfl, h, _, k⟩ := k
  exact ⟨a, dx, fs, rfl, h, k⟩
theorem y_eqO (k : MetK C "__eq__" (fun x H => MetK C "__eq__" (fun y H => sp [x, y] H Q E0) w H) v H) : rEqO C sp v w H Q := by
  obtain ⟨a, dx, fs, rfl, h, _, k⟩ := k
  obtain ⟨b, dy, gs, rfl, h', _, k⟩ := k
  exact ⟨a, b, dx, dy, fs, gs, rfl, rfl, h, h', k⟩
theorem y_neO (k : MetK C "__eq__" (fun x H => MetK C "__eq__" (fun y H => sp [x, y] H (fun z H' => ∃ t : Bool, z = .bl t ∧ Q (.bl (!t)) H') E0) w H) v H) : rNeO C sp v w H Q := by
  obtain ⟨a, dx, fs, rfl, h, _, k⟩ := k
  obtain ⟨b, dy, gs, rfl, h', _, k⟩ := k
  exact ⟨a, b, dx, dy, fs, gs, rfl, rfl, h, h', k⟩
theorem y_isiO' (c : CF K q cn ns) (ci : CI K q) (k : MetK q "__eq__" (fun _ H => Q (.bl true) H) v H) : rIsi K [v, .ref q] H Q := by
  obtain ⟨a, dx, fs, rfl, h, _, k⟩ := k
  exact ⟨_, _, _, _, true, rfl, .own q, .base (.ins h c.cl ci.ca ci.cn ci.ct ci.cm), ci.kt, k⟩
theorem zstrS {X : Cx} : CallR X (.type "str") (fun xs H Q => ∃ a, xs = [.str a] ∧ Q (.str a) H) := SkE.call_str_str
theorem y_strS {y : Str} (k : Q (.str y) H) : (fun (xs : List V) (H : Hp) (Q : VK) => ∃ a, xs = [.str a] ∧ Q (.str a) H) [.str y] H Q := ⟨y, rfl, k⟩
def rDcp : List V → Hp → VK → Prop := fun xs H Q => ∃ (a : Addr) (kvs : List (Key × V)), xs = [.ref a] ∧ Rd H a (.dK kvs) ∧ ∀ p, H p = none → Q (.ref p) (upd H p (.dK kvs))
theorem zdcp {X : Cx} : CallR X (.type "dict") rDcp := call_dictD
theorem y_dcp {m : Dc Int α} (b : BD K R Ho v m) (z : Zs R H Ho) (k : ∀ p H' g, Zs (g ++ R) H' Ho → OD K Ho (.ref p) m g → Q (.ref p) H') : rDcp [v] H Q := by
  obtain ⟨p, kvs, rfl, d, h⟩ := b.rd z
  refine ⟨p, kvs, rfl, .of h, fun a ha => ?_⟩
  exact k a _ [(a, DKey.ho (κ := Int) kvs)] (z.root ha) ⟨a, kvs, rfl, d, rfl⟩
end
end Z

/-! # a tuple of two pairs of one's own; a loop over it, turn by turn; a borrowed pair -/
namespace Z
open PySem PySem.Spec PyProof.Rows L2
section
variable {K : PySem.W.Frag} {H Ho H' Ho' : Hp} {α β α' β' γ : Type} [Py α] [Py β] [Py α'] [Py β'] {Φ : γ → Prop} {R R' g0 g1 g rs : Grp} {v w u v0 v1 : V} {Q : VK} {σ σ' : L2.St} {x : (List α × List β) × (List α' × List β')} {p : List α × List β} {q : List α' × List β'}
theorem TupAt.dd {x : α} {y : β} (t : TupAt Ho v v0 v1) (d0 : Z.D K Ho v0 x) (d1 : Z.D K Ho v1 y) : Z.D K Ho v (x, y) := by
  obtain ⟨p, rfl, hp⟩ := t
  exact .tup hp (.cons d0 (.cons d1 .nil))
def OPP (K : PySem.W.Frag) (Ho : Hp) (v : V) (x : (List α × List β) × (List α' × List β')) (g : Grp) : Prop := ∃ v0 v1 g0 g1, TupAt Ho v v0 v1 ∧ OP K Ho v0 x.1 g0 ∧ OP K Ho v1 x.2 g1 ∧ g = g0 ++ g1
theorem OPP.mo (h : OPP K Ho v x g) (e : Same Ho Ho') : OPP K Ho' v x g := by
  obtain ⟨v0, v1, g0, g1, t, o0, o1, rfl⟩ := h
  exact ⟨v0, v1, g0, g1, t.mo e, o0.mo e, o1.mo e, rfl⟩
theorem pp_open {P : Prop} (o : OPP K Ho v x g) (z : Zs (g ++ R) H Ho) (k : ∀ v0 v1 g0 g1, TupAt Ho v v0 v1 → OP K Ho v0 x.1 g0 → OP K Ho v1 x.2 g1 → Zs (g0 ++ (g1 ++ R)) H Ho → P) : P := by
  obtain ⟨v0, v1, g0, g1, t, o0, o1, rfl⟩ := o
  rw [List.append_assoc] at z
  exact k v0 v1 g0 g1 t o0 o1 z
theorem pp_close {P : Prop} (t : TupAt Ho v v0 v1) (o0 : OP K Ho v0 p g0) (o1 : OP K Ho v1 q g1) (z : Zs (g0 ++ (g1 ++ R)) H Ho) (k : ∀ g, OPP K Ho v (p, q) g → Zs (g ++ R) H Ho → P) : P :=
  k (g0 ++ g1) ⟨v0, v1, g0, g1, t, o0, o1, rfl⟩ (by rw [List.append_assoc]; exact z)
theorem pp_fr {P : Prop} (o : OPP K Ho v x g) (z : Zs (g ++ R) H Ho) (k : ∀ Ho', Same Ho Ho' → Zs R H Ho' → Z.D K Ho' v x → P) : P := by
  obtain ⟨w0, w1, g0, g1, t, o0, o1, rfl⟩ := o
  rw [List.append_assoc] at z
  refine p_fr o0 z fun Ho1 e1 z1 d0 => ?_
  refine p_fr (o1.mo e1) z1 fun Ho2 e2 z2 d1 => ?_
  exact k Ho2 (e1.trans e2) z2 (TupAt.dd ((t.mo e1).mo e2) (D.mo d0 e2) d1)
theorem pp_o {G : V → Prop} {e : (List α × List β) × (List α' × List β')} {f : (List α × List β) × (List α' × List β') → W γ} (hw : (W.bind (W.ret e) f).run Φ) (z : Zs (g ++ R) H Ho) (o : OPP K Ho v e g) (k : ∀ x v g, Zs (g ++ R) H Ho → OPP K Ho v x g → (f x).run Φ → G v) : LetV G v := k e v g z o hw
/-- a pair of lists that another holds -/
def LP (K : PySem.W.Frag) (R : Grp) (Ho : Hp) (v : V) (x : List α × List β) : Prop := ∃ v0 v1, TupAt Ho v v0 v1 ∧ LV K R Ho v0 x.1 ∧ LV K R Ho v1 x.2
theorem LP.of2 {xs : List α} {ys : List β} (t : TupAt Ho v v0 v1) (l0 : LV K R Ho v0 xs) (l1 : LV K R Ho v1 ys) : LP K R Ho v (xs, ys) := ⟨v0, v1, t, l0, l1⟩
/-- an iterator over a tuple of two -/
def Tw (K : PySem.W.Frag) (J : It) (v v0 v1 : V) : Prop := ∀ rs H' Ho', TupAt Ho' v v0 v1 → Zs rs H' Ho' → J.go 0 H' ∧ (∀ x H'', J.yld 0 H' x H'' → H'' = H' ∧ x = v0) ∧ J.go 1 H' ∧ (∀ x H'', J.yld 1 H' x H'' → H'' = H' ∧ x = v1) ∧ J.stop 2 H'
theorem tw_tup {a : Addr} : Tw K (Itt K a) (.ref a) v0 v1 := by
  rintro rs H' Ho' ⟨p, e, hp⟩ z
  cases e
  have s : SqT K H' a [v0, v1] := SqT.of (z.le _ _ hp)
  exact ⟨⟨_, _, s, rfl⟩, fun x H'' y => ⟨y.1, (Option.some.inj (y.2 _ s)).symm⟩, ⟨_, _, s, rfl⟩, fun x H'' y => ⟨y.1, (Option.some.inj (y.2 _ s)).symm⟩, _, s, Nat.le_refl _⟩
theorem k_srcTw {R : It → Hp → Prop} (t : TupAt Ho v v0 v1) (z : Zs rs H Ho) (k : ∀ J, Tw K J v v0 v1 → R J H) : SrcT K R v H := by
  obtain ⟨p, rfl, hp⟩ := t
  exact ⟨p, rfl, ⟨_, SqT.of (z.le _ _ hp)⟩, k _ tw_tup⟩
variable {g' : TG} {u1 tb : TS} {D : Ends} {J : It}
def Nx2 (u : TS) (D : Ends) (J : It) : L2.St → Hp → Prop := fun σ' H' => J.stop 2 H' ∧ u D σ' H'
def Nx1 (g : TG) (tb u : TS) (D : Ends) (J : It) : L2.St → Hp → Prop := fun σ' H' => J.go 1 H' ∧ ∀ x H'', J.yld 1 H' x H'' → g x σ' H'' fun σ2 H2 => tb { D with nx := Nx2 u D J, ct := Nx2 u D J, bk := u D } σ2 H2
theorem y_for2 (T : Tw K J v v0 v1) (t : TupAt Ho v v0 v1) (z : Zs rs H Ho) (k : g' v0 σ H fun σ2 H2 => tb { D with nx := Nx1 g' tb u1 D J, ct := Nx1 g' tb u1 D J, bk := u1 D } σ2 H2) : ForG g' tb u1 D σ J H := by
  refine ⟨fun i m σ' H' => (i = 0 ∧ m = 2 ∧ σ' = σ ∧ H' = H) ∨ (i = 1 ∧ m = 1 ∧ Nx1 g' tb u1 D J σ' H') ∨ (i = 2 ∧ m = 0 ∧ Nx2 u1 D J σ' H'), ⟨2, .inl ⟨rfl, rfl, rfl, rfl⟩⟩, ?_⟩
  rintro i m σ' H' (⟨rfl, rfl, rfl, rfl⟩ | ⟨rfl, rfl, n1⟩ | ⟨rfl, rfl, n2⟩)
  · obtain ⟨a, b, _⟩ := T _ _ _ t z
    refine .inr ⟨a, Nx1 g' tb u1 D J, fun σ' H' n => ⟨1, by decide, .inr (.inl ⟨rfl, rfl, n⟩)⟩, fun x H'' y => ?_⟩
    obtain ⟨rfl, rfl⟩ := b x H'' y
    exact k
  · exact .inr ⟨n1.1, Nx2 u1 D J, fun σ' H' n => ⟨0, by decide, .inr (.inr ⟨rfl, rfl, n⟩)⟩, n1.2⟩
  · exact .inl n2
theorem y_nx1 {E : Ends} (hE : E.nx = Nx1 g' tb u1 D J) (T : Tw K J v v0 v1) (t : TupAt Ho v v0 v1) (z : Zs rs H Ho) (k : g' v1 σ H fun σ2 H2 => tb { D with nx := Nx2 u1 D J, ct := Nx2 u1 D J, bk := u1 D } σ2 H2) : tNext E σ H := by
  show E.nx σ H
  rw [hE]
  obtain ⟨_, _, a, b, _⟩ := T _ _ _ t z
  refine ⟨a, fun x H'' y => ?_⟩
  obtain ⟨rfl, rfl⟩ := b x H'' y
  exact k
theorem y_nx2 {E : Ends} (hE : E.nx = Nx2 u1 D J) (T : Tw K J v v0 v1) (t : TupAt Ho v v0 v1) (z : Zs rs H Ho) (k : u1 D σ H) : tNext E σ H := by
  show E.nx σ H
  rw [hE]
  obtain ⟨_, _, _, _, a⟩ := T _ _ _ t z
  exact ⟨a, k⟩
end
end Z

/-! # sorted(set(..)) of fewer than 64 tuples of ints; tuples alone are kept of what stands for good -/
namespace Z
open PySem PySem.Spec PyProof.Rows L2
section
variable {α : Type} [Py α] [Ktup α]
def SSok (xs : List α) : Prop := xs.length < 64 ∧ ∀ x ∈ xs, ∀ m ∈ Ktup.key x, 0 ≤ m ∧ m < 1000000
def SSis (xs ys : List α) : Prop := (∀ y, y ∈ ys ↔ y ∈ xs) ∧ ys.Nodup
/-- sorted(set(xs)): each of xs once -/
def srtSet (xs : List α) : W (List α) := ⟨fun Φ => SSok xs ∧ ∀ ys, SSis xs ys → Φ ys, fun _ _ h q => ⟨q.1, fun ys hy => h ys (q.2 ys hy)⟩⟩
variable {K : PySem.W.Frag} {H Ho H' Ho' : Hp} {R : Grp} {v w : V} {Q : VK} {P : Program} {wd : World} {a : Addr} {L : List (Addr × List Int)} {xs : List α}
theorem tup_at {x : α} (d : Z.D K Ho w x) : ∃ p, w = .ref p ∧ Ho p = some (.tup ((Ktup.key x).map V.int)) := by
  have d : Dq K Ho w (toPy x) := d
  rw [Ktup.py] at d
  cases d with
  | tup hs ha =>
    have e := dl_ints (xs := Ktup.key x) ha
    rw [e] at hs
    exact ⟨_, rfl, hs⟩
theorem at_tup {x : α} {p : Addr} (h : Ho p = some (.tup ((Ktup.key x).map V.int))) : Z.D K Ho (.ref p) x := by
  show Dq K Ho (.ref p) (toPy x)
  rw [Ktup.py]
  exact .tup h ints_dl
def SetL (Ho : Hp) (L : List (Addr × List Int)) (xs : List α) : Prop := (∀ p ∈ L, ∃ x ∈ xs, p.2 = Ktup.key x ∧ Ho p.1 = some (.tup ((Ktup.key x).map V.int))) ∧ ∀ x ∈ xs, ∃ p ∈ L, p.2 = Ktup.key x
theorem dl_ks {vs : List V} : ∀ {xs : List α}, DL K Ho vs xs → ∃ ks : List (Addr × List Int), vs = ks.map (fun p => V.ref p.1) ∧ SetL Ho ks xs ∧ ks.length = xs.length := by
  induction vs with
  | nil =>
    intro xs h
    cases xs with
    | nil => exact ⟨[], rfl, ⟨fun p hp => absurd hp List.not_mem_nil, fun x hx => absurd hx List.not_mem_nil⟩, rfl⟩
    | cons x xs => cases h
  | cons v vs ih =>
    intro xs h
    cases xs with
    | nil => cases h
    | cons x xs =>
      cases h with
      | cons h1 h2 =>
        obtain ⟨p, rfl, hp⟩ := tup_at (x := x) h1
        obtain ⟨ks, rfl, ⟨s1, s2⟩, hl⟩ := ih (xs := xs) h2
        refine ⟨(p, Ktup.key x) :: ks, rfl, ⟨fun q hq => ?_, fun y hy => ?_⟩, by rw [List.length_cons, List.length_cons, hl]⟩
        · rcases List.mem_cons.mp hq with e | e
          · subst e
            exact ⟨x, List.mem_cons_self, rfl, hp⟩
          · obtain ⟨y, hy, a, b⟩ := s1 q e
            exact ⟨y, List.mem_cons_of_mem _ hy, a, b⟩
        · rcases List.mem_cons.mp hy with e | e
          · subst e
            exact ⟨_, List.mem_cons_self, rfl⟩
          · obtain ⟨q, hq, a⟩ := s2 y e
            exact ⟨q, List.mem_cons_of_mem _ hq, a⟩
theorem y_setT (d : LV K R Ho v xs) (z : Zs R H Ho) (hl : xs.length < 64) (k : ∀ a L H', Zs ((a, SetTO P wd a L) :: R) H' Ho → SetL Ho L xs → Q (.ref a) H') : rSetOfT K P wd [v] H Q := by
  obtain ⟨p, vs, rfl, d, s⟩ := LV.rd d z
  obtain ⟨ks, rfl, ⟨s1, s2⟩, hk⟩ := dl_ks d
  refine ⟨p, ks, rfl, s, fun q hq => ?_, by omega, fun a L ha h1 h2 => k a L _ (z.root ha) ⟨fun q hq => s1 q (h1 q hq), fun x hx => ?_⟩⟩
  · obtain ⟨x, _, e, ht⟩ := s1 q hq
    rw [e]
    exact SqT.of (z.le _ _ ht)
  · obtain ⟨q, hq, e⟩ := s2 x hx
    obtain ⟨q', hq', e'⟩ := List.mem_map.mp (h2 q hq)
    exact ⟨q', hq', e'.trans e⟩
theorem ks_dl : ∀ {L : List (Addr × List Int)}, (∀ p ∈ L, ∃ x ∈ xs, p.2 = Ktup.key x ∧ Ho p.1 = some (.tup ((Ktup.key x).map V.int))) → ∃ ys : List α, ys.map Ktup.key = L.map (·.2) ∧ DL K Ho (L.map fun p => V.ref p.1) ys ∧ ∀ y ∈ ys, y ∈ xs
  | [], _ => ⟨[], rfl, .nil, fun y hy => by cases hy⟩
  | p :: L, h => by
    obtain ⟨x, hx, e, ht⟩ := h p List.mem_cons_self
    obtain ⟨ys, e1, e2, e3⟩ := ks_dl (L := L) fun q hq => h q (List.mem_cons_of_mem _ hq)
    refine ⟨x :: ys, by rw [List.map_cons, List.map_cons, e1, e], .cons (at_tup ht) e2, fun y hy => ?_⟩
    rcases List.mem_cons.mp hy with q | q
    · rw [q]; exact hx
    · exact e3 y q
theorem y_sortedT (z : Zs ((a, SetTO P wd a L) :: R) H Ho) (s : SetL Ho L xs) (hb : ∀ x ∈ xs, ∀ m ∈ Ktup.key x, 0 ≤ m ∧ m < 1000000) (k : ∀ ys, SSis xs ys → ∀ H' p ws, Zs ((p, .lst ws) :: R) H' Ho → DL K Ho ws ys → Q (.ref p) H') : rSortedT K P wd [.ref a] H Q := by
  refine ⟨a, L, Ktup.d α, 1000000, rfl, z.head, fun p hp => ?_, Ktup.pos, fun p hp => ?_, fun L' p pm nd _ _ hp => ?_⟩
  · obtain ⟨x, _, e, ht⟩ := s.1 p hp
    rw [e]
    exact SqT.of (z.le _ _ ht)
  · obtain ⟨x, hx, e, _⟩ := s.1 p hp
    rw [e]
    exact ⟨Ktup.len x, hb x hx⟩
  · obtain ⟨ys, e1, e2, e3⟩ := ks_dl (K := K) (L := L') fun q hq => s.1 q (pm.mem_iff.mp hq)
    refine k ys ⟨fun y => ⟨e3 y, fun hy => ?_⟩, ?_⟩ _ p _ (z.root hp).sw1.tail e2
    · obtain ⟨q, hq, e⟩ := s.2 y hy
      have : q.2 ∈ ys.map Ktup.key := by rw [e1]; exact List.mem_map.mpr ⟨q, pm.mem_iff.mpr hq, rfl⟩
      obtain ⟨y', hy', ey⟩ := List.mem_map.mp this
      rw [← Ktup.inj y' y (ey.trans e)]
      exact hy'
    · rw [← e1] at nd
      exact List.Pairwise.of_map Ktup.key (fun a b h e => h (congrArg _ e)) nd
end
section
variable {X : Cx} {K : PySem.W.Frag} {P : Program} {w : World}
theorem zsetT (hK : X.K = K) (hP : X.prog = P) (hw : X.w = w) (hc : X.calm = true) (hu : X.A.units + 65 < cLine) : CallR X (.type "set") (rSetOfT K P w) := by
  subst hK hP hw
  exact cr_setOfT hc (by omega)
theorem zsortedT (hK : X.K = K) (hP : X.prog = P) (hw : X.w = w) (hc : X.calm = true) : CallR X (.builtin "sorted") (rSortedT K P w) := by
  subst hK hP hw
  exact cr_sortedT hc
end
/-! ## what stood for good is one's own again -/
section
variable {K : PySem.W.Frag} {H Ho H' Ho' : Hp} {R g : Grp} {v v0 v1 : V} {Q : VK} {α β γ : Type} [Py α] {Φ : γ → Prop}
def Thin (Ho Ho2 : Hp) : Prop := ∀ b vs, Ho b = some (.tup vs) → Ho2 b = some (.tup vs)
class DThin (α : Type) [Py α] : Prop where
  th : ∀ {K : PySem.W.Frag} {Ho Ho2 : Hp} {v : V} {x : α}, Z.D K Ho v x → Thin Ho Ho2 → Z.D K Ho2 v x
instance : DThin Int := ⟨fun d _ => by rw [d_int d]; exact .int _⟩
instance (priority := low) {α : Type} [Py α] [Ktup α] : DThin α := ⟨fun d t => by
  obtain ⟨p, rfl, hp⟩ := tup_at d
  exact at_tup (t _ _ hp)⟩
theorem dl_thin [DThin α] {Ho Ho2 : Hp} (t : Thin Ho Ho2) {vs : List V} : ∀ {xs : List α}, DL K Ho vs xs → DL K Ho2 vs xs := by
  induction vs with
  | nil =>
    intro xs h
    cases xs with
    | nil => exact .nil
    | cons x xs => cases h
  | cons v vs ih =>
    intro xs h
    cases xs with
    | nil => cases h
    | cons x xs =>
      cases h with
      | cons h1 h2 => exact .cons (DThin.th (x := x) h1 t) (ih (xs := xs) h2)
theorem OL.thin [DThin α] {Ho Ho2 : Hp} {xs : List α} (t : Thin Ho Ho2) (o : OL K Ho v xs g) : OL K Ho2 v xs g := by
  obtain ⟨p, vs, rfl, d, rfl⟩ := o
  exact ⟨p, vs, rfl, dl_thin t d, rfl⟩
theorem TupAt.thin {Ho Ho2 : Hp} (t : Thin Ho Ho2) (h : TupAt Ho v v0 v1) : TupAt Ho2 v v0 v1 := by
  obtain ⟨p, rfl, hp⟩ := h
  exact ⟨p, rfl, t _ _ hp⟩
theorem l_oP {P : V → β → Prop} {G : V → Prop} {v : V} {e : β} {f : β → W γ} (hw : (W.bind (W.ret e) f).run Φ) (o : P v e) (k : ∀ x v, P v x → (f x).run Φ → G v) : LetV G v := k e v o hw
end
end Z

/-! # sets of up to some four thousand tuples of ints: the round of x → 5 x + 1 modulo any power of two, and the tables by it -/
namespace Zb
open PySem PySem.Spec PyProof.Rows L2
/-! ## the round -/
def gs : Nat → Nat
  | 0 => 0
  | n + 1 => gs n * 5 + 1
theorem gs_pow : ∀ n, 4 * gs n + 1 = 5 ^ n
  | 0 => rfl
  | n + 1 => by
    rw [Nat.pow_succ, ← gs_pow n]
    show 4 * (gs n * 5 + 1) + 1 = _
    omega
theorem gs_add (a : Nat) : ∀ b, gs (a + b) = 5 ^ b * gs a + gs b
  | 0 => by simp [gs]
  | b + 1 => by
    show gs (a + b) * 5 + 1 = _ + (gs b * 5 + 1)
    rw [gs_add a b]
    grind
theorem gs_two : ∀ k, ∃ c, gs (2 ^ k) = 2 ^ k * (2 * c + 1)
  | 0 => ⟨0, rfl⟩
  | k + 1 => by
    obtain ⟨c, e⟩ := gs_two k
    refine ⟨2 * c * gs (2 ^ k) + c + gs (2 ^ k), ?_⟩
    have h : gs (2 ^ (k + 1)) = (4 * gs (2 ^ k) + 1) * gs (2 ^ k) + gs (2 ^ k) := by rw [gs_pow, ← gs_add, ← Nat.mul_two, ← Nat.pow_succ]
    rw [h, Nat.pow_succ]
    generalize gs (2 ^ k) = g at e ⊢
    generalize 2 ^ k = A at e ⊢
    grind
theorem gs_hits : ∀ (k j : Nat), j < 2 ^ k → ∃ b, b < 2 ^ k ∧ gs b % 2 ^ k = j
  | 0, j, h => ⟨0, Nat.one_pos, by rw [Nat.lt_one_iff.mp h]; rfl⟩
  | k + 1, j, h => by
    obtain ⟨c, ec⟩ := gs_two k
    have hp : 0 < 2 ^ k := Nat.two_pow_pos k
    obtain ⟨b, hb, e⟩ := gs_hits k (j % 2 ^ k) (Nat.mod_lt _ hp)
    have split2 : ∀ x, x % (2 ^ k * 2) = x % 2 ^ k + 2 ^ k * (x / 2 ^ k % 2) := fun x => Nat.mod_mul
    have ej : j = j % 2 ^ k + 2 ^ k * (j / 2 ^ k % 2) := by rw [← split2, Nat.mod_eq_of_lt (by rw [← Nat.pow_succ]; exact h)]
    have eb : gs (b + 2 ^ k) = gs b + 2 ^ k * (2 * (4 * c * gs b + 2 * gs b + c) + 1) := by
      rw [gs_add, ← gs_pow]
      generalize gs (2 ^ k) = y at ec ⊢
      generalize 2 ^ k = A at ec ⊢
      generalize gs b = x
      grind
    rw [Nat.pow_succ]
    by_cases q : gs b / 2 ^ k % 2 = j / 2 ^ k % 2
    · exact ⟨b, by omega, by rw [split2, e, q]; exact ej.symm⟩
    · refine ⟨b + 2 ^ k, by omega, ?_⟩
      have q1 : gs (b + 2 ^ k) % 2 ^ k = j % 2 ^ k := by rw [eb, Nat.add_mul_mod_self_left, e]
      have q2 : gs (b + 2 ^ k) / 2 ^ k % 2 = j / 2 ^ k % 2 := by
        rw [eb, Nat.add_mul_div_left _ _ hp]
        omega
      rw [split2, q1, q2]
      exact ej.symm
theorem lcg_gs (m : Nat) : ∀ n, lcgN m n = gs n % (m + 1)
  | 0 => (Nat.zero_mod _).symm
  | n + 1 => by
    show (lcgN m n * 5 + 1) % (m + 1) = (gs n * 5 + 1) % (m + 1)
    rw [lcg_gs m n, Nat.add_mod, Nat.mul_mod, Nat.mod_mod, ← Nat.mul_mod, ← Nat.add_mod]
/-- the tables' masks, one behind the other -/
def GM (m : Nat) : Prop := m = 7 ∨ m = 31 ∨ m = 127 ∨ m = 511 ∨ m = 2047 ∨ m = 8191
theorem GM.pw {m : Nat} (h : GM m) : ∃ k, m + 1 = 2 ^ k := by
  rcases h with rfl | rfl | rfl | rfl | rfl | rfl
  · exact ⟨3, rfl⟩
  · exact ⟨5, rfl⟩
  · exact ⟨7, rfl⟩
  · exact ⟨9, rfl⟩
  · exact ⟨11, rfl⟩
  · exact ⟨13, rfl⟩
theorem GM.odd {m : Nat} (h : GM m) : m % 2 = 1 := by rcases h with rfl | rfl | rfl | rfl | rfl | rfl <;> rfl
theorem GM.le {m : Nat} (h : GM m) : 10 * SetTable.turns m ≤ 90000 := by
  unfold SetTable.turns
  rcases h with rfl | rfl | rfl | rfl | rfl | rfl <;> decide
theorem hits {m i j : Nat} (hm : GM m) (hi : i ≤ m) (hj : j ≤ m) : ∃ k, k ≤ m ∧ lcgI m i k = j := by
  obtain ⟨e, he⟩ := hm.pw
  have one : ∀ x, x ≤ m → ∃ b, b ≤ m ∧ lcgN m b = x := fun x hx => by
    obtain ⟨b, hb, eb⟩ := gs_hits e x (by omega)
    exact ⟨b, by omega, by rw [lcg_gs, he]; exact eb⟩
  have back : ∀ x, lcgN m (m + 1 + x) = lcgN m x := fun x => by
    obtain ⟨c, ec⟩ := gs_two e
    rw [lcg_gs, lcg_gs, he, gs_add, ec, Nat.mul_left_comm, Nat.mul_add_mod]
  obtain ⟨a, ha, rfl⟩ := one i hi
  obtain ⟨b, hb, rfl⟩ := one j hj
  by_cases c : a ≤ b
  · exact ⟨b - a, by omega, by rw [lcgN_add]; congr 1; omega⟩
  · refine ⟨m + 1 + b - a, by omega, ?_⟩
    rw [lcgN_add, ← back b]
    congr 1
    omega
theorem run_hits {m j : Nat} (hm : GM m) (h : Int) (hj : j ≤ m) : ∃ n, n ≤ m + 12 ∧ runI m (SetTable.bits h) n = j := by
  obtain ⟨k, hk, e⟩ := hits hm (runI_le m (SetTable.bits h) 12) hj
  refine ⟨12 + k, by omega, ?_⟩
  rw [runI_tail (bits_lt h), e]
theorem way_hits {m j : Nat} (hm : GM m) (h : Int) (hj : j ≤ m) : ∃ k, k < 10 * SetTable.turns m ∧ way m h k = j := by
  obtain ⟨n, hn, e⟩ := run_hits hm h hj
  obtain ⟨k, hk, e2⟩ := run_nth m (SetTable.bits h) n
  have lt : k < 10 * SetTable.turns m := by unfold SetTable.turns; omega
  exact ⟨k, lt, (congrArg SetTable.Probe.j e2).trans e⟩
theorem way_in {m : Nat} {h : Int} {k : Nat} : way m h k ≤ m := by
  have b : SetTable.bits h % (m + 1) < m + 1 := Nat.mod_lt _ (Nat.succ_pos m)
  have r := runEnd_bd (m := m) (i := SetTable.bits h % (m + 1)) (by omega)
  have q := nth_in (m := m) k (runAt m (SetTable.bits h % (m + 1)) (SetTable.bits h)) (by dsimp only [runAt]; omega)
  exact Nat.le_trans (Nat.le_add_right _ _) q
/-! ## tables -/
/-- all hashes are found again -/
structure TG (t : SetTable) (hs : List Int) : Prop where
  ri : Ris t.place.toList
  du : t.dummies = #[]
  si : t.place.toList.length = hs.length
  gm : GM t.mask
  le : ∀ x ∈ t.place.toList, x ≤ t.mask
  re : ∀ (i : Nat) (h : Int) (j : Nat), hs[i]? = some h → t.place.toList[i]? = some j → ∃ k, way t.mask h k = j ∧ ∀ c, c < k → way t.mask h c ∈ t.place.toList
section
variable {t : SetTable} {hs : List Int}
theorem TG.hole (T : TG t hs) (hl : hs.length ≤ t.mask) (h : Int) : ∃ K, K < 10 * SetTable.turns t.mask ∧ way t.mask h K ∉ t.place.toList ∧ ∀ k, k < K → way t.mask h k ∈ t.place.toList := by
  obtain ⟨j, hj, no⟩ := st_missing t.place.toList (t.mask + 1) (by have := T.si; omega)
  obtain ⟨k, hk, e⟩ := way_hits T.gm h (Nat.le_of_lt_succ hj)
  obtain ⟨K, h1, h2, h3⟩ := st_least (p := fun k => way t.mask h k ∉ t.place.toList) k (by rw [e]; exact no)
  exact ⟨K, by omega, h2, fun c hc => Classical.byContradiction fun z => h3 c hc z⟩
theorem TG.ahead (T : TG t hs) {h : Int} {K i j : Nat} (hK : way t.mask h K ∉ t.place.toList) (hi : hs[i]? = some h) (hj : t.place.toList[i]? = some j) : ∃ k, k < K ∧ way t.mask h k = j := by
  obtain ⟨k, e, hb⟩ := T.re i h j hi hj
  refine ⟨k, Classical.byContradiction fun z => ?_, e⟩
  rcases Nat.lt_or_ge K k with c | c
  · exact hK (hb K c)
  · obtain rfl : k = K := by omega
    exact hK (by rw [e]; exact List.mem_of_getElem? hj)
/-- one more -/
theorem TG.more (T : TG t hs) {h : Int} {K : Nat} (hK : way t.mask h K ∉ t.place.toList) (hb : ∀ k, k < K → way t.mask h k ∈ t.place.toList) :
    ∃ p, (t.put (way t.mask h K)).2 = p ∧ p ≤ hs.length ∧ TG (t.put (way t.mask h K)).1 (hs.take p ++ h :: hs.drop p) ∧ (t.put (way t.mask h K)).1.fill = hs.length + 1 := by
  have win : way t.mask h K ≤ t.mask := way_in
  obtain ⟨j, ej⟩ : ∃ j, way t.mask h K = j := ⟨_, rfl⟩
  rw [ej] at hK win ⊢
  have cut := (below_cut T.ri j).1
  have si := T.si
  rw [← Array.length_toList, si] at cut
  have pl := put_place t j
  have no : t.place[SetTable.below t.place j]? ≠ some j := by
    rw [← Array.getElem?_toList]
    exact fun e => hK (List.mem_of_getElem? e)
  have ln : (t.put j).1.place.toList.length = hs.length + 1 := by rw [pl, len_ins _ (by omega), si]
  have sub : ∀ x ∈ t.place.toList, x ∈ (t.put j).1.place.toList := fun x hx => by rw [pl]; exact mem_ins.mpr (.inr hx)
  refine ⟨SetTable.below t.place j, rfl, cut, ⟨ris_insert T.ri no, put_dm T.du j, by rw [ln, len_ins _ cut], T.gm, fun x hx => ?_, fun i h' j' a b => ?_⟩, ?_⟩
  · rw [pl, mem_ins] at hx
    rcases hx with rfl | hx
    · exact win
    · exact T.le x hx
  · rw [tins_get _ cut] at a
    rw [pl, tins_get _ (by omega)] at b
    show ∃ k, way t.mask h' k = j' ∧ ∀ c, c < k → way t.mask h' c ∈ (t.put j).1.place.toList
    by_cases c1 : i < SetTable.below t.place j
    · rw [if_pos c1] at a b
      obtain ⟨k, e, z⟩ := T.re i h' j' a b
      exact ⟨k, e, fun c hc => sub _ (z c hc)⟩
    · rw [if_neg c1] at a b
      by_cases c2 : i = SetTable.below t.place j
      · rw [if_pos c2] at a b
        cases a
        cases b
        exact ⟨K, ej, fun c hc => sub _ (hb c hc)⟩
      · rw [if_neg c2] at a b
        obtain ⟨k, e, z⟩ := T.re (i - 1) h' j' a b
        exact ⟨k, e, fun c hc => sub _ (z c hc)⟩
  · show (t.put j).1.place.size + (t.put j).1.dummies.size = _
    rw [← Array.length_toList, ln, put_dm T.du j]
    rfl
end
/-! ## all laid anew -/
theorem free_at {m j : Nat} (hm : GM m) (ow : Array (Option Nat)) (h : Int) (hj : j ≤ m) (hf : oAt ow j = none) :
    ∃ K, SetTable.layClean.free m ow (SetTable.turns m) (SetTable.bits h % (m + 1)) (SetTable.bits h) = some (way m h K) ∧ oAt ow (way m h K) = none ∧ ∀ k, k < K → oAt ow (way m h k) ≠ none := by
  obtain ⟨n, hn, e⟩ := run_hits hm h hj
  have ew : way m h (off m (SetTable.bits h % (m + 1)) (SetTable.bits h) n) = j := by
    have := congrArg SetTable.Probe.j (nth_off m n (SetTable.bits h % (m + 1)) (SetTable.bits h))
    rw [itL_run] at this
    exact this.trans e
  obtain ⟨K, k1, k2, k3⟩ := st_least (p := fun k => oAt ow (way m h k) = none) _ (show oAt ow (way m h (off m (SetTable.bits h % (m + 1)) (SetTable.bits h) n)) = none by rw [ew]; exact hf)
  refine ⟨K, free_spec m ow (SetTable.turns m) n _ _ K (by unfold SetTable.turns; omega) k1 (fun k hk => ?_) ?_, k2, k3⟩
  · exact Option.isNone_eq_false_iff.mpr (Option.isSome_iff_ne_none.mpr (k3 k hk))
  · exact Option.isNone_iff_eq_none.mpr k2
theorem own_more {m : Nat} (hm : GM m) {done : List Int} {ow : Array (Option Nat)} (W : Own m done ow) (hl : done.length ≤ m) (h : Int) :
    ∃ j, SetTable.layClean.free m ow (SetTable.turns m) (SetTable.bits h % (m + 1)) (SetTable.bits h) = some j ∧ Own m (done ++ [h]) (ow.setIfInBounds j (some done.length)) := by
  obtain ⟨ps, lp, ip⟩ := W.ps
  obtain ⟨z, hz, nz⟩ := st_missing ps (m + 1) (by omega)
  obtain ⟨K, e1, e2, e3⟩ := free_at hm ow h (Nat.le_of_lt_succ hz) (Classical.byContradiction fun q => nz (ip z (Nat.le_of_lt_succ hz) q))
  have wm : way m h K ≤ m := way_in
  obtain ⟨j, ej⟩ : ∃ j, way m h K = j := ⟨_, rfl⟩
  rw [ej] at e1 e2 wm
  have new := oAt_set_self (some done.length) (show j < ow.size by rw [W.sz]; omega)
  have old : ∀ i, i ≠ j → oAt (ow.setIfInBounds j (some done.length)) i = oAt ow i := fun i hi => oAt_set_ne _ hi
  have up : ∀ i, oAt ow i ≠ none → oAt (ow.setIfInBounds j (some done.length)) i ≠ none := fun i hi => by
    by_cases c : i = j
    · rw [c, new]; simp
    · rw [old i c]; exact hi
  refine ⟨j, e1, ⟨by rw [Array.size_setIfInBounds, W.sz], fun i k hi e => ?_, fun k hk => ?_, j :: ps, by simp [lp], fun i hi e => ?_⟩⟩
  · by_cases c : i = j
    · rw [c, new] at e
      cases e
      exact ⟨h, K, by simp, by rw [ej, c], fun q hq => up _ (e3 q hq)⟩
    · rw [old i c] at e
      obtain ⟨g, G, a1, a2, a3⟩ := W.at_ i k hi e
      have lt := (List.getElem?_eq_some_iff.mp a1).1
      exact ⟨g, G, by rw [List.getElem?_append_left lt, a1], a2, fun q hq => up _ (a3 q hq)⟩
  · rw [List.length_append, List.length_singleton] at hk
    by_cases c : k < done.length
    · obtain ⟨i, hi, e⟩ := W.all k c
      exact ⟨i, hi, by rw [old i fun q => by rw [q, e2] at e; cases e]; exact e⟩
    · obtain rfl : k = done.length := by omega
      exact ⟨j, wm, new⟩
  · by_cases c : i = j
    · rw [c]; simp
    · rw [old i c] at e
      exact List.mem_cons_of_mem _ (ip i hi e)
theorem own_all {m : Nat} (hm : GM m) : ∀ (rest done : List Int) (ow : Array (Option Nat)), Own m done ow → done.length + rest.length ≤ m →
    ∃ ow', rest.foldl (stepF m) (some (ow, done.length)) = some (ow', (done ++ rest).length) ∧ Own m (done ++ rest) ow'
  | [], done, ow, W, _ => ⟨ow, by rw [List.append_nil]; rfl, by rw [List.append_nil]; exact W⟩
  | h :: rest, done, ow, W, hl => by
    rw [List.length_cons] at hl
    obtain ⟨j, e, W1⟩ := own_more hm W (by omega) h
    obtain ⟨ow', f, W2⟩ := own_all hm rest (done ++ [h]) _ W1 (by rw [List.length_append, List.length_singleton]; omega)
    rw [List.append_assoc, List.length_append, List.length_singleton] at f
    rw [List.append_assoc] at W2
    exact ⟨ow', by rw [List.foldl_cons, stepF_some e]; exact f, W2⟩
theorem laid_anew (t : SetTable) {hs : Array Int} {wanted M : Nat} (hw : SetTable.sizeAbove wanted - 1 = M) (hM : GM M) (hn : hs.size ≤ M) :
    ∃ t' od, t.relaid hs wanted = some (t', od) ∧ od.toList.Perm (List.range hs.size) ∧ TG t' (od.toList.map fun i => hs.getD i 0) ∧ t'.mask = M ∧ t'.led = t.led ∧ t'.plain = t.plain := by
  obtain ⟨ow, f, W⟩ := own_all hM hs.toList [] _ (Own.init M) (by rw [Array.length_toList]; simpa using hn)
  rw [List.nil_append] at f W
  have lay : SetTable.layClean M hs = some ow := by
    rw [layClean_eq]
    exact congrArg (Option.map (·.1)) f
  obtain ⟨lv, elv⟩ : ∃ lv, liveOf M ow = lv := ⟨_, rfl⟩
  have mem : ∀ j k, (j, k) ∈ lv ↔ j ≤ M ∧ oAt ow j = some k := fun j k => by rw [← elv]; exact mem_live W.sz
  have rr := ris_live (fun j => ow.getD j none) (List.range (M + 1)) (show List.Pairwise _ _ from List.pairwise_lt_range)
  have r1 : Ris (lv.map (·.1)) := by rw [← elv]; exact rr.1
  have r2 : ∀ x ∈ lv.map (·.1), x ≤ M := fun x hx => by
    rw [← elv] at hx
    exact Nat.le_of_lt_succ (List.mem_range.mp (rr.2 x hx))
  have onto : ∀ k, k < hs.size → k ∈ lv.map (·.2) := fun k hk => by
    obtain ⟨j, b1, b2⟩ := W.all k (by rw [Array.length_toList]; exact hk)
    exact List.mem_map.mpr ⟨(j, k), (mem j k).mpr ⟨b1, b2⟩, rfl⟩
  have ll : lv.length = hs.size := by
    obtain ⟨ps, p1, p2⟩ := W.ps
    rw [Array.length_toList] at p1
    have a := nat_nodup_len (lv.map fun q : Nat × Nat => q.1) ps (show List.Pairwise _ _ from List.Pairwise.imp (fun h => Nat.ne_of_lt h) r1) fun x hx => by
      obtain ⟨⟨y, k⟩, hq, rfl⟩ := List.mem_map.mp hx
      obtain ⟨b1, b2⟩ := (mem y k).mp hq
      exact p2 y b1 (by rw [b2]; simp)
    have b := nat_nodup_len (List.range hs.size) (lv.map (·.2)) List.nodup_range fun k hk => onto k (List.mem_range.mp hk)
    rw [List.length_map] at a
    rw [List.length_map, List.length_range] at b
    have p3 : ps.length = hs.size := p1
    exact Nat.le_antisymm (by rw [← p3]; exact a) b
  refine ⟨tabOf t M ow, (lv.map (·.2)).toArray, ?_, ?_, ?_, rfl, rfl, rfl⟩
  · rw [relaid_eq, hw, lay, ← elv]
    rfl
  · exact perm_range hs.size (lv.map (·.2)) (by rw [List.length_map, ll]) onto
  · have pl : (tabOf t M ow).place.toList = lv.map (·.1) := by rw [← elv]; rfl
    refine ⟨by rw [pl]; exact r1, rfl, by rw [pl]; simp, hM, fun x hx => by rw [pl] at hx; exact r2 x hx, fun i h j a b => ?_⟩
    rw [pl] at b ⊢
    show ∃ k, way M h k = j ∧ _
    rw [List.getElem?_map] at b
    obtain ⟨⟨y, k⟩, hq, rfl⟩ := Option.map_eq_some_iff.mp b
    have a : ((lv.map (·.2)).map fun i => hs.getD i 0)[i]? = some h := a
    rw [List.getElem?_map, List.getElem?_map, hq] at a
    have eh : hs.getD k 0 = h := Option.some.inj a
    obtain ⟨b1, b2⟩ := (mem y k).mp (List.mem_of_getElem? hq)
    obtain ⟨g, G, c1, c2, c3⟩ := W.at_ y k b1 b2
    have eg : g = h := by
      rw [← eh, Array.getD_eq_getD_getElem?, ← Array.getElem?_toList, c1]
      rfl
    subst eg
    refine ⟨G, c2, fun c hc => ?_⟩
    obtain ⟨k2, e2⟩ := Option.ne_none_iff_exists'.mp (c3 c hc)
    exact List.mem_map.mpr ⟨(way M g c, k2), (mem _ _).mpr ⟨way_in, e2⟩, rfl⟩
/-- where a table is too full, the next one is as large as is needed -/
theorem grow {m n : Nat} (hm : GM m) (h1 : n * 5 < m * 3) (h2 : (n + 1) * 5 ≥ m * 3) (h3 : n < 4000) : ∃ M, SetTable.sizeAbove (SetTable.grown (n + 1)) - 1 = M ∧ GM M ∧ SetTable.sizeAbove (SetTable.grown (n + 1)) ≤ 8192 ∧ (n + 1) * 5 < M * 3 ∧ n + 1 ≤ m := by
  have s1 : SetTable.sizeAbove (SetTable.grown 5) = 32 ∧ SetTable.sizeAbove (SetTable.grown 19) = 128 ∧ SetTable.sizeAbove (SetTable.grown 77) = 512 ∧ SetTable.sizeAbove (SetTable.grown 307) = 2048 ∧ SetTable.sizeAbove (SetTable.grown 1229) = 8192 := by decide +kernel
  obtain ⟨a, b, c, d, e⟩ := s1
  rcases hm with rfl | rfl | rfl | rfl | rfl | rfl
  · obtain rfl : n = 4 := by omega
    exact ⟨31, by rw [a], .inr (.inl rfl), by rw [a]; decide, by decide, by decide⟩
  · obtain rfl : n = 18 := by omega
    exact ⟨127, by rw [b], .inr (.inr (.inl rfl)), by rw [b]; decide, by decide, by decide⟩
  · obtain rfl : n = 76 := by omega
    exact ⟨511, by rw [c], .inr (.inr (.inr (.inl rfl))), by rw [c]; decide, by decide, by decide⟩
  · obtain rfl : n = 306 := by omega
    exact ⟨2047, by rw [d], .inr (.inr (.inr (.inr (.inl rfl)))), by rw [d]; decide, by decide, by decide⟩
  · obtain rfl : n = 1228 := by omega
    exact ⟨8191, by rw [e], .inr (.inr (.inr (.inr (.inr rfl)))), by rw [e]; decide, by decide, by decide⟩
  · omega
/-! ## the set in the heap -/
section
variable {P : Program} {w : World} {A : Around} {E : Value → Shared → Prop} {s : Shared}
structure SG (P : Program) (w : World) (h : Heap) (c : Addr) (L : List (Addr × List Int)) (es : Array (Int × Value)) (ep : Nat) (t : SetTable) : Prop where
  ob : ∃ o, h.get? c = some o ∧ o.ExactSet ∧ o.data = .set es ep t
  rw_ : es.toList = rowsOf P w L
  tg : TG t (L.map fun p => thash P w p.2)
  nd : (L.map (·.2)).Nodup
  tu : ∀ p ∈ L, IsT P w h p.2 p.1
  pl : t.plain = true
  ld : w.params.followText "set-order" = true ∨ t.led = true
  ro : L.length * 5 < t.mask * 3
  fe : L.length < 4000
variable {c : Addr} {L : List (Addr × List Int)} {es : Array (Int × Value)} {ep : Nat} {t : SetTable}
theorem rows_len {es : Array (Int × Value)} (h : es.toList = rowsOf P w L) : es.size = L.length := by
  rw [← Array.length_toList, h]
  exact List.length_map _
theorem SG.lenE (R : SG P w s.heap c L es ep t) : es.size = L.length := rows_len R.rw_
theorem TG.fits_ {hs : List Int} (T : TG t hs) {n : Nat} (h : hs.length = n) (h2 : n ≤ t.mask) : t.fits n = true := by
  have q := T.si
  rw [Array.length_toList] at q
  unfold SetTable.fits SetTable.fill
  rw [T.du, Bool.and_eq_true, beq_iff_eq, decide_eq_true_eq]
  exact ⟨q.trans h, by show t.place.size + 0 ≤ _; omega⟩
theorem SG.fi (R : SG P w s.heap c L es ep t) : t.fits es.size = true := R.tg.fits_ (by rw [List.length_map, R.lenE]) (by have := R.ro; have := R.lenE; omega)
theorem SG.ent (R : SG P w s.heap c L es ep t) {i : Nat} {p : Addr × List Int} (h : L[i]? = some p) : es[i]? = some (thash P w p.2, Value.ref p.1) := by
  rw [← Array.getElem?_toList, R.rw_]
  unfold rowsOf
  rw [List.getElem?_map, h]
  rfl
theorem no_dummy (m : Nat) : ∀ (n : Nat) (p : SetTable.Probe), p.dummy = none → (nth m p n).dummy = none
  | 0, _, h => h
  | n + 1, p, h => no_dummy m n (adv m p) (by unfold adv; split <;> exact h)
/-- the search from a step of the way on -/
theorem find_from (R : SG P w s.heap c L es ep t) {x : Addr} {k : List Int} (hx : IsT P w s.heap k x) (hu : A.units < cLine) {h0 : Int} (eh : thash P w k = h0) {W : Nat → Nat} (eW : W = way t.mask h0) {K : Nat} (hKf : K < 10 * SetTable.turns t.mask)
    (hK : W K ∉ t.place.toList) (hKb : ∀ q, q < K → W q ∈ t.place.toList) {Q : SetFound → Shared → Prop}
    (hin : k ∈ L.map (·.2) → Q (.there none) s) (hout : k ∉ L.map (·.2) → Q (.free (W K) false) s) {pr : Nat → SetTable.Probe} (ep_ : pr = nth t.mask (runAt t.mask (SetTable.bits h0 % (t.mask + 1)) (SetTable.bits h0))) :
    ∀ (f b : Nat) (stand : Option SetTable.Probe), stand.getD (t.probeStart h0) = pr b → b ≤ K → K - b < f →
      (∀ (i : Nat) p, L[i]? = some p → p.2 = k → ∃ d, b ≤ d ∧ d < K ∧ t.place.toList[i]? = some (W d)) →
      wpAny (model P w) A (setSearchFrom c (.ref x) h0 true f stand) Q E s
  | 0, _, _, _, _, hf, _ => absurd hf (Nat.not_lt_zero _)
  | f + 1, b, stand, hst, hb, hf, hre => by
    obtain ⟨o, ho, hex, hd⟩ := R.ob
    have fi := R.fi
    have pw : ∀ q, (pr q).j = W q := fun q => by rw [ep_, eW]
    have step : ∀ q, nth t.mask (pr b) q = pr (b + q) := fun q => by rw [ep_, ← nth_add]
    have stepW : ∀ q, (nth t.mask (pr b) q).j = W (b + q) := fun q => by rw [step, pw]
    have hashOf : ∀ (i : Nat) p, L[i]? = some p → ((es[i]?.map (·.1)).getD 0) = thash P w p.2 := fun i p hp => by rw [R.ent hp]; rfl
    rw [setSearchFrom_succ]
    refine wpAny_bind (wpAny_setState_of ho hd fi ?_)
    dsimp only
    refine wp_if_neg (by unfold SetTable.gaveWay; rw [R.tg.gm.odd]; decide) ?_
    try refine wpAny_bind (wpAny_pure ?_)
    have spec := go_spec t R.tg.ri R.tg.du (fun i => (es[i]?.map (·.1)).getD 0) h0 (10 * SetTable.turns t.mask) (K - b) (pr b) (by rw [ep_]; exact no_dummy _ _ _ rfl) (by omega)
      (fun q hq => by rw [stepW]; exact hKb _ (by omega)) (by rw [stepW, show b + (K - b) = K by omega]; exact hK)
    rcases spec with ⟨q, i, hq, hi, hh, hno, hpr⟩ | ⟨hno, hpr⟩
    · have hpr' : t.probe (fun i => (es[i]?.map (·.1)).getD 0) h0 (stand.getD (t.probeStart h0)) = some (.candidate (W (b + q)) i (pr (b + (q + 1)))) := by
        rw [hst, ← stepW, ← step]
        exact hpr
      rw [hpr']
      dsimp only
      rw [stepW] at hi
      have iL : i < L.length := by
        have a := (List.getElem?_eq_some_iff.mp hi).1
        have q := R.tg.si
        rw [List.length_map] at q
        omega
      obtain ⟨p, hp⟩ : ∃ p, L[i]? = some p := ⟨_, List.getElem?_eq_getElem iL⟩
      have pin := List.mem_of_getElem? hp
      have slot := slot_live R.tg.ri hi
      have rest : wpAny (model P w) A (searchRest c (.ref x) h0 true f es t (W (b + q)) i (pr (b + (q + 1)))) Q E s := by
        unfold searchRest
        rw [R.ent hp]
        dsimp only
        refine wpAny_bind (wpAny_holding (wpAny_eqBool_tuple hu (R.tu p pin) hx ?_))
        refine wpAny_bind (wpAny_setState_of ho hd fi ?_)
        dsimp only
        by_cases same : p.2 = k
        · exact wp_if_pos (by simp [same]) (wpAny_pure (hin (List.mem_map.mpr ⟨p, pin, same⟩)))
        · refine wp_if_neg (by simp [same]) ?_
          try refine wpAny_bind (wpAny_pure ?_)
          rw [sameMem]
          dsimp only
          simp only [if_true, slot, R.ent hp]
          refine wpAny_bind (wpAny_isSame_ref_self (wpAny_bind (wpAny_pure ?_)))
          simp only [if_true]
          refine wp_if_neg (by simp [same]) ?_
          refine find_from R hx hu eh eW hKf hK hKb hin hout ep_ f (b + (q + 1)) _ rfl (by omega) (by omega) fun i1 p1 l1 k1 => ?_
          obtain ⟨d, d1, d2, d3⟩ := hre i1 p1 l1 k1
          refine ⟨d, Classical.byContradiction fun lt => ?_, d2, d3⟩
          by_cases dq : d = b + q
          · rw [dq] at d3
            have s2 := slot_live R.tg.ri d3
            rw [slot] at s2
            cases s2
            rw [hp] at l1
            cases l1
            exact same k1
          · refine hno (d - b) i1 (by omega) (by rw [stepW, show b + (d - b) = d by omega]; exact d3) ?_
            show (es[i1]?.map (·.1)).getD 0 = h0
            rw [hashOf i1 p1 l1, k1, eh]
      by_cases hl : t.led = true
      · refine wp_if_neg (by simp [hl]) ?_
        try refine wpAny_bind (wpAny_pure ?_)
        exact rest
      · refine wp_if_pos (by simp [hl]) (wpAny_bind (seen_tup hx (fun y hy => ?_) ?_))
        · obtain ⟨e, he, rfl⟩ := List.mem_map.mp hy
          have e0 : e ∈ es ∧ e.1 = h0 := by simpa using he
          have e1 : e ∈ es.toList := by simpa using e0.1
          rw [R.rw_] at e1
          obtain ⟨p2, hp2, rfl⟩ := List.mem_map.mp e1
          exact ⟨p2.2, p2.1, rfl, R.tu p2 hp2⟩
        · refine wp_if_neg (by decide) ?_
          try refine wpAny_bind (wpAny_pure ?_)
          exact rest
    · have hpr' : t.probe (fun i => (es[i]?.map (·.1)).getD 0) h0 (stand.getD (t.probeStart h0)) = some (.empty (W K) none) := by
        have : W K = (nth t.mask (pr b) (K - b)).j := by rw [stepW, show b + (K - b) = K by omega]
        rw [hst, this]
        exact hpr
      rw [hpr']
      dsimp only
      refine wpAny_pure (hout fun hm => ?_)
      obtain ⟨p1, m1, k1⟩ := List.mem_map.mp hm
      obtain ⟨i1, l1⟩ := List.mem_iff_getElem?.mp m1
      obtain ⟨d, d1, d2, d3⟩ := hre i1 p1 l1 k1
      refine hno (d - b) i1 (by omega) (by rw [stepW, show b + (d - b) = d by omega]; exact d3) ?_
      show (es[i1]?.map (·.1)).getD 0 = h0
      rw [hashOf i1 p1 l1, k1, eh]
theorem find_at (R : SG P w s.heap c L es ep t) {x : Addr} {k : List Int} (hx : IsT P w s.heap k x) (hu : A.units < cLine) {Q : SetFound → Shared → Prop} (hin : k ∈ L.map (·.2) → Q (.there none) s)
    (hout : ∀ K, k ∉ L.map (·.2) → way t.mask (thash P w k) K ∉ t.place.toList → (∀ q, q < K → way t.mask (thash P w k) q ∈ t.place.toList) → Q (.free (way t.mask (thash P w k) K) false) s) :
    wpAny (model P w) A (setSearch c (.ref x) (thash P w k) true) Q E s := by
  have ro := R.ro
  obtain ⟨K, hKf, hK, hKb⟩ := R.tg.hole (by rw [List.length_map]; omega) (thash P w k)
  have := R.tg.gm.le
  refine find_from R hx hu rfl rfl hKf hK hKb hin (fun hn => hout K hn hK hKb) rfl 100000 0 none rfl (Nat.zero_le _) (by omega) fun i p hp hk => ?_
  have hi : (L.map fun p => thash P w p.2)[i]? = some (thash P w k) := by rw [List.getElem?_map, hp, ← hk]; rfl
  have lt : i < t.place.toList.length := by
    rw [R.tg.si]
    exact (List.getElem?_eq_some_iff.mp hi).1
  obtain ⟨d, hd, e⟩ := R.tg.ahead hK hi (List.getElem?_eq_getElem lt)
  exact ⟨d, Nat.zero_le _, hd, by rw [e]; exact List.getElem?_eq_getElem lt⟩
/-- laid anew in the heap -/
theorem anew_at {o : Obj} (ho : s.heap.get? c = some o) (hex : o.ExactSet) (hd : o.data = .set es ep t) (hr : es.toList = rowsOf P w L) {hs : List Int} (T : TG t hs) (hl : hs.length = L.length) (lm : L.length ≤ t.mask)
    (nd : (L.map (·.2)).Nodup) (tu : ∀ p ∈ L, IsT P w s.heap p.2 p.1) (pl : t.plain = true) (ld : w.params.followText "set-order" = true ∨ t.led = true) (fe : L.length < 4000) {wanted M : Nat}
    (hw : SetTable.sizeAbove wanted - 1 = M) (hM : GM M) (hw2 : SetTable.sizeAbove wanted ≤ 8192) (hn : L.length * 5 < M * 3) {Q : Unit → Shared → Prop}
    (hQ : ∀ h' L' es' ep' t', Heap.SameBut c s.heap h' → SG P w h' c L' es' ep' t' → L'.Perm L → Q () { s with heap := h' }) : wpAny (model P w) A (setRelay c wanted) Q E s := by
  have el := rows_len hr
  obtain ⟨t', od, e, hp, T', em, el', epl⟩ := laid_anew t (hs := es.map (·.1)) (wanted := wanted) hw hM (by rw [Array.size_map, el]; omega)
  rw [Array.size_map, el] at hp
  obtain ⟨L2, r1, r2, r3⟩ := order_rows L es od hr hp
  rw [← r3] at T'
  have l2 : (od.filterMap (es[·]?)).size = L.length := by rw [rows_len r1, r2.length_eq]
  rw [setRelay_eq]
  refine wpAny_bind (wpAny_setState_of ho hd (T.fits_ (by rw [hl, el]) (by omega)) ?_)
  dsimp only
  refine wp_if_neg (by rw [sizeLine_eq]; omega) ?_
  try refine wpAny_bind (wpAny_pure ?_)
  rw [e]
  dsimp only
  refine wpAny_bind (wp_if_neg (by rw [l2, el]; simp) ?_)
  try refine wpAny_bind (wpAny_pure ?_)
  refine wpAny_pure ?_
  dsimp only
  refine wpAny_storeSet_of ho hd ?_ (by rw [l2, sizeLine_eq]; omega)
  have sb : Heap.SameBut c s.heap (s.heap.update c (Obj.putSet (od.filterMap (es[·]?)) t')) := Heap.SameBut.update ..
  refine hQ _ L2 _ (ep + 1) t' sb ⟨⟨_, store_at ho hd, ⟨hex.1, hex.2.1, hex.2.2⟩, rfl⟩, r1, T', (r2.map _).nodup_iff.mpr nd, fun p hp => isT_same (tu p (r2.mem_iff.mp hp)) ho hd sb, by rw [epl]; exact pl, by rw [el']; exact ld, by rw [r2.length_eq, em]; exact hn, by rw [r2.length_eq]; exact fe⟩ r2
/-- one added -/
theorem put_at (R : SG P w s.heap c L es ep t) {x : Addr} {k : List Int} (hx : IsT P w s.heap k x) (hu : A.units < cLine) (fe : L.length + 1 < 4000) {Q : Bool → Shared → Prop}
    (hQ : ∀ b h' L' es' ep' t', Heap.SameBut c s.heap h' → SG P w h' c L' es' ep' t' → (k ∈ L.map (·.2) → L' = L) → (k ∉ L.map (·.2) → L'.Perm ((x, k) :: L)) → Q b { s with heap := h' }) :
    wpAny (model P w) A (setAddHashed c (.ref x) (thash P w k)) Q E s := by
  obtain ⟨o, ho, hex, hd⟩ := R.ob
  have el := R.lenE
  have ro := R.ro
  unfold setAddHashed
  refine wpAny_holding ?_
  rw [show (100000 : Nat) = 99999 + 1 from rfl, setAddHashedIn_succ]
  refine wpAny_bind (wpAny_setState_of ho hd R.fi ?_)
  dsimp only
  refine wp_if_neg (by simp [byScan, Value.scannable]) ?_
  try refine wpAny_bind (wpAny_pure ?_)
  refine wpAny_bind (find_at R hx hu (fun hm => wpAny_pure (hQ false s.heap L es ep t (Heap.SameBut.refl c s.heap) R (fun _ => rfl) fun z => absurd hm z)) fun K hm hK hb => ?_)
  dsimp only
  refine wpAny_bind (wpAny_setState_of ho hd R.fi ?_)
  dsimp only
  obtain ⟨p, q1, q2, q3, q4⟩ := R.tg.more hK hb
  have facts : (t.put (way t.mask (thash P w k) K)).1.mask = t.mask ∧ (t.put (way t.mask (thash P w k) K)).1.led = t.led ∧ (t.put (way t.mask (thash P w k) K)).1.plain = t.plain := ⟨rfl, rfl, rfl⟩
  obtain ⟨f1, f2, f3⟩ := facts
  rw [List.length_map] at q2 q4
  generalize t.put (way t.mask (thash P w k) K) = pt at q1 q3 q4 f1 f2 f3 ⊢
  obtain ⟨t1, p1⟩ := pt
  dsimp only at q1 q3 q4 f1 f2 f3 ⊢
  subst q1
  have pl1 : t1.plain = true := by rw [f3]; exact R.pl
  first
    | refine wpAny_bind (wp_if_pos pl1 (hashBy_tup hx ?_))
    | refine wp_if_pos pl1 (wpAny_bind (hashBy_tup hx ?_))
  simp only [if_true]
  have pm := put_perm L p1 (x, k)
  have in1 : (SetTable.insertAt es p1 (thash P w k, Value.ref x)).toList = rowsOf P w (L.take p1 ++ (x, k) :: L.drop p1) := by rw [SetTable.toList_insertAt, rows_put, R.rw_]
  have hh : (L.take p1 ++ (x, k) :: L.drop p1).map (fun p => thash P w p.2) = (L.map fun p => thash P w p.2).take p1 ++ thash P w k :: (L.map fun p => thash P w p.2).drop p1 := by simp [List.map_take, List.map_drop]
  rw [← hh] at q3
  generalize SetTable.insertAt es p1 (thash P w k, Value.ref x) = es1 at in1 ⊢
  generalize L.take p1 ++ (x, k) :: L.drop p1 = L1 at pm q3 in1
  have l1 : L1.length = L.length + 1 := pm.length_eq
  have le1 : es1.size = L.length + 1 := (rows_len in1).trans l1
  have nd1 : (L1.map (·.2)).Nodup := (pm.map (·.2)).nodup_iff.mpr (List.nodup_cons.mpr ⟨hm, R.nd⟩)
  refine wpAny_bind (wpAny_storeSet_of ho hd ?_ (by rw [le1, sizeLine_eq]; omega))
  have sb : Heap.SameBut c s.heap (s.heap.update c (Obj.putSet es1 t1)) := Heap.SameBut.update ..
  have ho1 := store_at (es' := es1) (t' := t1) ho hd
  generalize s.heap.update c (Obj.putSet es1 t1) = h1 at sb ho1 ⊢
  have tu1 : ∀ p ∈ L1, IsT P w h1 p.2 p.1 := fun p hp => by
    rcases List.mem_cons.mp (pm.mem_iff.mp hp) with rfl | hp
    · exact isT_same hx ho hd sb
    · exact isT_same (R.tu p hp) ho hd sb
  have ld1 : w.params.followText "set-order" = true ∨ t1.led = true := by rw [f2]; exact R.ld
  have full : t1.tooFull = decide ((L.length + 1) * 5 ≥ t.mask * 3) := by unfold SetTable.tooFull; rw [q4, f1]
  by_cases hf : (L.length + 1) * 5 ≥ t.mask * 3
  · rw [decide_eq_true hf] at full
    first
      | refine wpAny_bind (wp_if_pos (by simp [full]) ?_)
      | (refine wp_if_pos (by simp [full]) ?_; refine wpAny_bind ?_)
    rw [el]
    obtain ⟨M, g1, g2, g3, g4, g5⟩ := grow R.tg.gm ro hf (by omega)
    refine anew_at (s := { s with heap := h1 }) ho1 ⟨hex.1, hex.2.1, hex.2.2⟩ rfl in1 q3 (List.length_map _) (by rw [l1, f1]; exact g5) nd1 tu1 pl1 ld1 (by rw [l1]; exact fe) g1 g2 g3 (by rw [l1]; exact g4) fun h2 L2 es2 ep2 t2 sb2 R2 pm2 => ?_
    exact wpAny_pure (hQ true h2 L2 es2 ep2 t2 (sb.trans sb2) R2 (fun z => absurd z hm) fun _ => pm2.trans pm)
  · rw [decide_eq_false hf] at full
    first
      | refine wp_if_neg (by simp [full]) ?_
      | (refine wpAny_bind (wp_if_neg (by simp [full]) (wpAny_pure ?_)))
    exact wpAny_pure (hQ true h1 L1 es1 (ep + 1) t1 sb ⟨⟨_, ho1, ⟨hex.1, hex.2.1, hex.2.2⟩, rfl⟩, in1, q3, nd1, tu1, pl1, ld1, by rw [l1, f1]; omega, by rw [l1]; exact fe⟩ (fun z => absurd z hm) fun _ => pm)
/-! ## set(xs) -/
/-- a set as it is made -/
def ob0 (w : World) : Obj := { cls := .type "set", dict := none, data := .set #[] 0 (.fresh 0 0 (!w.params.followText "set-order")) }
theorem SG.keep {h h' : Heap} (R : SG P w h c L es ep t) (ha : ∀ o, h.get? c = some o → h'.get? c = some o) (ht : ∀ p ∈ L, IsT P w h' p.2 p.1) : SG P w h' c L es ep t := by
  obtain ⟨o, ho, r⟩ := R.ob
  exact { R with ob := ⟨o, ha o ho, r⟩, tu := ht }
theorem sg0 {h : Heap} (ho : h.get? c = some (ob0 w)) : SG P w h c [] #[] 0 (.fresh 0 0 (!w.params.followText "set-order")) where
  ob := ⟨_, ho, ⟨rfl, rfl, rfl⟩, rfl⟩
  rw_ := rfl
  tg := ⟨List.Pairwise.nil, rfl, rfl, .inl rfl, fun x hx => (by cases hx), fun i h j hi => (by simp at hi)⟩
  nd := List.nodup_nil
  tu := fun p hp => (by cases hp)
  pl := rfl
  ld := by
    show _ ∨ (!w.params.followText "set-order") = true
    cases w.params.followText "set-order" <;> simp
  ro := by show 0 * 5 < 7 * 3; decide
  fe := by show 0 < 4000; decide
theorem upd_loop {I : Addr} {fp wr : List Addr} {G : Array GenState → Array GenState → Prop} {n : Nat} {Pv : Nat → Value → Prop} {St : Nat → Shared → Prop} {R : Result → Shared → Prop}
    (W : WalksS P w A.in1 I fp wr G n Pv St) (S : Addr) (hSf : S ∉ fp) (ks : List (Addr × List Int)) (hn : n = ks.length) (fe : ks.length < 4000) (hval : ∀ i v, Pv i v → ∃ p, ks[i]? = some p ∧ v = .ref p.1)
    (h0 : Heap) (hk : ∀ p ∈ ks, IsT P w h0 p.2 p.1) (hS0 : h0.get? S = none) (hw0 : ∀ b ∈ wr, h0.get? b = none) (hu : A.in1.units < cLine) :
    ∀ (k i : Nat) (s : Shared), n - i = k → i ≤ n → St i s → (∀ b o, h0.get? b = some o → s.heap.get? b = some o) → (∃ L es ep t, SG P w s.heap S L es ep t ∧ Got ks i L) →
      (∀ s' L es ep t, Moved (S :: wr) G s s' → SG P w s'.heap S L es ep t → Got ks n L → (∀ b o, h0.get? b = some o → s'.heap.get? b = some o) → R (.ok (.ret .none)) s') →
      codeAny (model P w) A (.builtin "set.update.loop" ⟨[.ref S, .ref I], []⟩) R s := by
  have Sw : S ∉ wr := fun h => hSf (W.sub _ h)
  have sub : ∀ b ∈ wr, b ∈ S :: wr := fun b hb => List.mem_cons_of_mem _ hb
  have still : ∀ {s s' : Shared}, Moved wr G s s' → (∀ b o, h0.get? b = some o → s.heap.get? b = some o) → ∀ b o, h0.get? b = some o → s'.heap.get? b = some o := fun m k b o e => m.heap b o (fun z => by rw [hw0 b z] at e; cases e) (k b o e)
  intro k
  induction k with
  | zero =>
    intro i s hk' hi hst hkp ⟨L, es, ep, t, hS, g⟩ hR
    obtain rfl : i = n := by omega
    refine codeAny_builtin F.entry_set_update_loop ?_
    rw [Around.under_plainId F.plain_set_update_loop _]
    show wpAny _ A.in1 (pyNext (.ref I) >>= _) _ _ s
    refine wpAny_bind (W.done s _ _ hst fun s' hm => ?_)
    have hkp' := still hm hkp
    have R' := hS.keep (h' := s'.heap) (fun o e => hm.heap S o Sw e) fun p hp => isT_keep (hk p (List.mem_of_mem_take (g.sub p hp))) hkp'
    exact wpAny_pure (hR s' L es ep t (hm.mono sub) R' g hkp')
  | succ k ih =>
    intro i s hk' hi hst hkp ⟨L, es, ep, t, hS, g⟩ hR
    refine codeAny_builtin F.entry_set_update_loop ?_
    rw [Around.under_plainId F.plain_set_update_loop _]
    show wpAny _ A.in1 (pyNext (.ref I) >>= _) _ _ s
    refine wpAny_bind (W.item i s _ _ (by omega) hst fun v s' hP hst' hm => ?_)
    obtain ⟨p, hp, rfl⟩ := hval i v hP
    have hkp' := still hm hkp
    have R' := hS.keep (h' := s'.heap) (fun o e => hm.heap S o Sw e) fun q hq => isT_keep (hk q (List.mem_of_mem_take (g.sub q hq))) hkp'
    have hx : IsT P w s'.heap p.2 p.1 := isT_keep (hk p (List.mem_of_getElem? hp)) hkp'
    show wpAny _ A.in1 (holding [Value.ref p.1] (setAdd S (.ref p.1)) >>= _) _ _ s'
    refine wpAny_bind (wpAny_holding ?_)
    unfold setAdd
    refine wpAny_holding (wpAny_bind (wpAny_pyHash_tuple hu hx ?_))
    refine put_at (s := { s' with toks := s'.toks + (p.2.length + 1) }) R' hx hu (by have := g.len; omega) fun b h' L' es' ep' t' sb R2 c1 c2 => ?_
    have g' : Got ks (i + 1) L' := by
      by_cases c : p.2 ∈ L.map (·.2)
      · rw [c1 c]; exact g.same hp c
      · exact g.more hp (c2 c)
    have hkp2 : ∀ b o, h0.get? b = some o → h'.get? b = some o := fun b o e => (sb.2 b (fun z => by rw [z, hS0] at e; cases e)).trans (hkp' b o e)
    refine wpAny_pure ⟨plainId_quiet F.plain_set_update_loop _, ih (i + 1) _ (by omega) (by omega) (W.frame _ s' _ _ hst' (Nat.le_add_right _ _) fun b hb o e => ?_) hkp2 ⟨L', es', ep', t', R2, g'⟩ fun s2 L2 es2 ep2 t2 m2 R3 g2 k2 => ?_⟩
    · rw [sb.2 b fun z => hSf (z ▸ hb)]; exact e
    · refine hR s2 L2 es2 ep2 t2 (Moved.trans W.gtrans ((hm.mono sub).then_heap (Nat.le_add_right _ _) fun b o hb e => ?_) m2) R3 g2 k2
      rw [sb.2 b fun z => hb (by rw [z]; simp)]; exact e
theorem call_set {l : Addr} {items : Array Value} (ks : List (Addr × List Int)) {Q : Value → Shared → Prop} (hh : A.handled = none) (hl : s.heap.IsList l items) (hit : items.toList = ks.map fun p => Value.ref p.1)
    (hk : ∀ p ∈ ks, IsT P w s.heap p.2 p.1) (fe : ks.length < 4000) (hu : A.units + 3 < cLine)
    (h : ∀ (h' : Heap) (tk : Nat) L es ep t, SG P w h' s.heap.objs.size L es ep t → Got ks ks.length L → (∀ b o, s.heap.get? b = some o → h'.get? b = some o) → Q (.ref s.heap.objs.size) { s with heap := h', toks := tk }) :
    wpAny (model P w) A (call (.type "set") [.ref l]) Q E s := by
  have isz : items.size = ks.length := by rw [← Array.length_toList, hit, List.length_map]
  obtain ⟨_, tl, hmro⟩ := F.called_set.mro
  have hmade := F.called_set.made
  have hsub := F.called_set.sub
  refine wpAny_call (codeAny_of_tree ?_)
  show wpAny _ _ (callAny (.type "set") _) _ _ _
  refine wpAny_pure ⟨Code.quiet_builtin _ (by decide +kernel), codeAny_builtin F.entry_type_call ?_⟩
  rw [Around.under_plain (weight_type_call_type "set" [.ref l] []) rfl]
  have h1 := F.called_set.notType
  have h2 := F.called_set.canCreate
  have hct := F.typeCall_set_1 (.ref l)
  repeat (any_goals (first | assumption | wp_step))
  refine codeAny_mono (code_set_led1 (.ref l) (E := E) (Q₁ := fun obj s₁ => obj = .ref s.heap.objs.size ∧ s₁ = { s with heap := s.heap.push (ob0 w) }) ⟨rfl, rfl⟩) fun r s₁ hr => ?_
  cases r with
  | error e => exact hr
  | ok fl =>
    cases fl with
    | ret obj =>
      obtain ⟨rfl, rfl⟩ := hr
      have hS : (s.heap.push (ob0 w)).get? s.heap.objs.size = some (ob0 w) := Heap.get?_push_size _ rfl
      have hT : Shared.TypeIs { s with heap := s.heap.push (ob0 w) } (.ref s.heap.objs.size) "set" := ⟨_, hS, rfl⟩
      have hli := F.called_set.init.lookup
      have hbi := F.called_set.init.bind (.ref s.heap.objs.size)
      repeat (any_goals (first | assumption | wp_step))
      refine codeAny_mono (codeAny_call_builtin (R := wants (fun r s₂ => r = .none ∧ ∃ h' tk L es ep t, s₂ = { s with heap := h', toks := tk } ∧ SG P w h' s.heap.objs.size L es ep t ∧ Got ks ks.length L ∧
          (∀ b o, s.heap.get? b = some o → h'.get? b = some o)) E) F.called_set.init.plain F.entry_set_init (check_set_init_1 hT ?_)) fun r₂ s₂ hr₂ => ?_
      · obtain ⟨ol, hol, hcl, nl, hdl⟩ := hl
        obtain ⟨ocls, odict, odata, oslots⟩ := ol
        simp only at hcl hdl
        subst hcl hdl
        have hol' : (s.heap.push (ob0 w)).get? l = some { cls := .type "list", dict := odict, data := .seq items nl, slots := oslots } := Heap.get?_push_of_some _ hol
        have hsls := F.sub_list_set
        have hslf := F.sub_list_frozenset
        have hne : (Value.type "list" == Value.type "dict") = false := by decide
        have hl1 : (s.heap.push (ob0 w)).IsList l items := ⟨_, hol', rfl, nl, rfl⟩
        unfold Builtin.«set.__init__» noKeywords Builtin.Frozenset.updateFrom
        generalize hPI : pyIter = PI
        wp_walk
        subst hPI
        refine wpAny_pyIter_list hl1 (wpAny_bind (wpAny_runValue ?_))
        have lS : l < s.heap.objs.size := Heap.lt_size hol
        have zS : (s.heap.push (ob0 w)).objs.size = s.heap.objs.size + 1 := Heap.size_push _ _
        have none_of : ∀ b, s.heap.objs.size ≤ b → s.heap.get? b = none := fun b hb => by
          cases q : s.heap.get? b with
          | none => rfl
          | some o => exact absurd (Nat.lt_of_lt_of_le (Heap.lt_size q) hb) (Nat.lt_irrefl _)
        refine upd_loop ((Walks.list (show A.in1.in1.in1.handled = none by simp [hh]) (s.heap.push (ob0 w)).objs.size l (by rw [zS]; exact Nat.ne_of_lt (Nat.lt_succ_of_lt lS)) items).toS) s.heap.objs.size (by
          rw [zS]
          simp only [List.mem_cons, List.not_mem_nil, or_false, not_or]
          exact ⟨Nat.ne_of_lt (Nat.lt_succ_self _), Nat.ne_of_gt lS⟩) ks isz fe (fun i v hv => ?_) s.heap hk (none_of _ (Nat.le_refl _))
          (fun b hb => none_of b (by rw [List.mem_singleton.mp hb, zS]; exact Nat.le_succ _)) hu (items.size - 0) 0 _ (by omega) (Nat.zero_le _) ⟨⟨_, Heap.get?_push_size _ rfl, rfl, rfl⟩, hl1.push _⟩ (fun b o e => Heap.get?_push_of_some _ (Heap.get?_push_of_some _ e)) ?_ ?_
        · have q : items.toList[i]? = some v := by rw [Array.getElem?_toList]; exact hv
          rw [hit, List.getElem?_map] at q
          obtain ⟨p, hp, e⟩ := Option.map_eq_some_iff.mp q
          exact ⟨p, hp, e.symm⟩
        · exact ⟨[], #[], 0, _, sg0 (Heap.get?_push_of_some _ hS), Got.zero ks⟩
        · intro s' L es ep t hm R' g' hkp
          obtain ⟨h', g2, d', tk', os'⟩ := s'
          obtain rfl : g2 = s.gens := hm.gens
          obtain rfl : d' = s.drawn := hm.drawn
          obtain rfl : os' = s.os := hm.os
          rw [isz] at g'
          show wpAny _ _ _ _ _ _
          refine wpAny_pure ?_
          show wpAny _ _ (ret Value.none) _ _ _
          exact wpAny_pure ⟨rfl, h', tk', L, es, ep, t, rfl, R', g', hkp⟩
      · cases r₂ with
        | error e => exact hr₂
        | ok fl₂ =>
          cases fl₂ with
          | ret r =>
            obtain ⟨rfl, h', tk, L, es, ep, t, rfl, R', g', hk'⟩ := hr₂
            repeat (any_goals (first | assumption | wp_step))
            exact h _ _ _ _ _ _ R' g' hk'
          | _ => exact hr₂.elim
    | _ => exact hr.elim
end
end Zb

/-! # len(set(xs)), sorted(set(xs)), xs a list of up to some four thousand tuples of ints -/
namespace Zb
open PySem PySem.Spec PyProof.Rows L2 Z
section
variable {P : Program} {w : World} {A : Around} {E : Value → Shared → Prop} {s : Shared} {c : Addr} {L : List (Addr × List Int)} {es : Array (Int × Value)} {ep : Nat} {t : SetTable}
theorem sort_set (R : SG P w s.heap c L es ep t) (hh : A.handled = none) {d : Nat} (h1 : 1 ≤ d) (hd : ∀ p ∈ L, p.2.length = d) {Q : Value → Shared → Prop}
    (hQ : ∀ s' p (out : List Value) (n : Nat), (∀ b o, s.heap.get? b = some o → s'.heap.get? b = some o) → s'.gens = s.gens → s'.os = s.os → s.heap.objs.size ≤ p → s'.heap.get? p = some (seqObj "list" out.toArray n) → out.Perm (L.map fun q => Value.ref q.1) →
      out.Pairwise (fun u v => lexL (TS.intsOf s.heap v) (TS.intsOf s.heap u) = false) → Q (.ref p) s') : wpAny (model P w) A (call (.builtin "sorted") [.ref c]) Q E s := by
  obtain ⟨o, ho, hex, hdt⟩ := R.ob
  have el := R.lenE
  have fe := R.fe
  refine Calls.call_function_entry kind_sorted plain_sorted entry_sorted (args_sorted1 _) ?_
  unfold Builtin.«sorted»
  refine wpAny_bind (m := checkCount "sorted" 1 1 _) (wpAny_pure ?_)
  refine wpAny_bind (collect_set (A := A.in1) hh ⟨o, ho, hex.1, hdt⟩ R.fi (by unfold scanBound; omega) R.tg.ri R.ld fun s1 vs k1 hz g1 o1 pm => ?_)
  have er : es.toList.map (·.2) = L.map fun q => Value.ref q.1 := by
    rw [R.rw_]
    unfold rowsOf
    rw [List.map_map]
    rfl
  rw [er] at pm
  have vl : vs.length < 4000 := by rw [pm.length_eq, List.length_map]; exact fe
  have raw : ∀ v ∈ vs, TS.TupInts s.heap v (TS.intsOf s.heap v) ∧ (TS.intsOf s.heap v).length = d := fun v hv => by
    obtain ⟨p, hp, rfl⟩ := List.mem_map.mp (pm.mem_iff.mp hv)
    have q := tupInts_of (P := P) (w := w) (R.tu p hp)
    rw [q.ints]
    exact ⟨q, hd p hp⟩
  refine wpAny_bind (wpAny_newList ?_ (by rw [sizeLine_eq]; omega))
  have hoL : (s1.heap.push (seqObj "list" vs.toArray 0)).get? s1.heap.objs.size = some (seqObj "list" vs.toArray 0) := Heap.get?_push_size _ rfl
  have keep : ∀ b o, s.heap.get? b = some o → (s1.heap.push (seqObj "list" vs.toArray 0)).get? b = some o := fun b o e => Heap.get?_push_of_some _ (k1 b o e)
  refine wpAny_bind (wpAny_holding (wpAny_call_entry slot_list_sort ⟨_, hoL, rfl⟩ entry_list_sort (SrtO.list_sort_ord (s := { s1 with heap := s1.heap.push (seqObj "list" vs.toArray 0) }) (ltv := fun v u => lexL (TS.intsOf s.heap v) (TS.intsOf s.heap u)) (swoL _) hoL (by rw [sizeLine_eq]; omega) (fun h2 => ?_) fun out a1 a2 => ⟨_, rfl, ?_⟩) (args_list_sort _)))
  · refine tups_sortable (k := TS.intsOf s.heap) h1 (by omega) (fun v hm => ⟨(raw v hm).1.keeps fun c o e _ => keep c o e, (raw v hm).2⟩) fun o e => ?_
    have e' := e.symm.trans hoL
    cases e'
    exact fun c => absurd (Value.type.inj c) (by decide)
  · obtain ⟨n, hn⟩ := PyProof.Rows.sortedHeap_at (out := out.toArray) hoL
    refine wpAny_pure ⟨_, rfl, hQ _ s1.heap.objs.size out n (fun b u e => ?_) g1 o1 hz hn (a2.perm.trans pm) a1⟩
    have lt := Heap.lt_size (k1 b u e)
    show (sortedHeap (s1.heap.push (seqObj "list" vs.toArray 0)) s1.heap.objs.size vs out.toArray).get? b = some u
    rw [sortedHeap_old (Nat.ne_of_lt lt) (by rw [size_push']; exact Nat.lt_succ_of_lt lt)]
    exact keep b u e
end
/-- each key once -/
def SetIs (ks L : List (Addr × List Int)) : Prop := (∀ q ∈ L, q ∈ ks) ∧ (∀ q ∈ ks, q.2 ∈ L.map (·.2)) ∧ (L.map (·.2)).Nodup
def LenSetK (K : PySem.W.Frag) (Q : VK) (x : V) (H : Hp) : Prop := ∃ (l : Addr) (ks : List (Addr × List Int)), x = V.ref l ∧ SqL K H l (ks.map fun p => V.ref p.1) ∧ (∀ p ∈ ks, SqT K H p.1 (p.2.map V.int)) ∧ ks.length < 4000 ∧ ∀ L, SetIs ks L → Q (.int (L.length : Nat)) H
def tLenSetB (K : PySem.W.Frag) (ta : TE) : TE := fun σ H Q => ta σ H fun x H1 => LenSetK K Q x H1
def SrtSetK (K : PySem.W.Frag) (Q : VK) (x : V) (H : Hp) : Prop := ∃ (l : Addr) (ks : List (Addr × List Int)) (d : Nat), x = V.ref l ∧ SqL K H l (ks.map fun p => V.ref p.1) ∧ (∀ p ∈ ks, SqT K H p.1 (p.2.map V.int)) ∧ ks.length < 4000 ∧ 1 ≤ d ∧ (∀ p ∈ ks, p.2.length = d) ∧
  ∀ L p, SetIs ks L → L.Pairwise (fun x y => lexL y.2 x.2 = false) → H p = none → Q (.ref p) (upd H p (.lst (L.map fun q => V.ref q.1)))
def tSrtSetB (K : PySem.W.Frag) (ta : TE) : TE := fun σ H Q => ta σ H fun x H1 => SrtSetK K Q x H1
theorem got_is {ks L : List (Addr × List Int)} (g : Got ks ks.length L) (nd : (L.map (·.2)).Nodup) : SetIs ks L := ⟨fun q hq => List.mem_of_mem_take (g.sub q hq), fun q hq => g.all q (by rw [List.take_length]; exact hq), nd⟩
section
variable {X : Cx} {a : Expr} {ta : TE} {p p2 q pos : Pos}
theorem pe_lenSetB (hc : X.calm = true) (hu : X.A.units + 65 < cLine) (hg : Gl X "len") (hm : X.mg "len" = none) (hg2 : Gl X "set") (hm2 : X.mg "set" = none) (ha : PE X a ta)
    (na : starEach [a] X.env = (false, eval a X.env) :: starEach [] X.env := by rfl) : PE X (.Call (.Name "len" p) [.Call (.Name "set" p2) [a] [] q] [] pos) (tLenSetB X.K ta) := by
  refine ⟨fun pins s σ H Q I h => ?_⟩
  refine Call_ (ld_blt I hg hm PySem.boot_len ?_)
  refine PyProof.Rows.callWith_builtin1 (PyProof.Rows.args_cons ?_ rfl) rfl rfl
  refine Call_ (ld_blt I hg2 hm2 PyProof.Rows.boot_set ?_)
  refine PyProof.Rows.callWith_type1 (PyProof.Rows.args_cons (thn (ha.run pins s σ H _ I h) fun v s1 ⟨x, H1, I1, r1, q1⟩ => PyProof.Rows.args_nil ?_) na) na rfl
  obtain ⟨l, ks, rfl, hq, hk, fe, q1⟩ := q1
  cases r1
  obtain ⟨its, r, pl, hz⟩ := I1.list hq
  refine call_set (P := X.prog) (w := X.w) ks (I1.ok.hd hc) pl.isList (by simpa using refs_of_vals r) (fun p hp => I1.isT (hk p hp)) fe (by omega) fun h' tk L es ep t R g hk' => PyProof.Rows.args_nil ?_
  obtain ⟨o, ho, hex, hdt⟩ := R.ob
  have I2 : Inv X pins σ H1 { s1 with heap := h', toks := tk } := I1.kept fun b o e => hk' b o e
  have el := SG.lenE (s := { s1 with heap := h', toks := tk }) R
  have f2 := R.fe
  refine call_len_set ho hex hdt (SG.fi (s := { s1 with heap := h', toks := tk }) R) (by rw [el]; omega) ⟨.int (L.length : Nat), H1, I2.tok _, ⟨_, by rw [el]⟩, q1 L (got_is g R.nd)⟩
theorem pe_srtSetB (hc : X.calm = true) (hu : X.A.units + 65 < cLine) (hg : Gl X "sorted") (hm : X.mg "sorted" = none) (hg2 : Gl X "set") (hm2 : X.mg "set" = none) (ha : PE X a ta)
    (na : starEach [a] X.env = (false, eval a X.env) :: starEach [] X.env := by rfl) : PE X (.Call (.Name "sorted" p) [.Call (.Name "set" p2) [a] [] q] [] pos) (tSrtSetB X.K ta) := by
  refine ⟨fun pins s σ H Q I h => ?_⟩
  refine Call_ (ld_blt I hg hm (u := .builtin "sorted") (by first | rfl | decide +kernel) ?_)
  refine PyProof.Rows.callWith_builtin1 (PyProof.Rows.args_cons ?_ rfl) rfl rfl
  refine Call_ (ld_blt I hg2 hm2 PyProof.Rows.boot_set ?_)
  refine PyProof.Rows.callWith_type1 (PyProof.Rows.args_cons (thn (ha.run pins s σ H _ I h) fun v s1 ⟨x, H1, I1, r1, q1⟩ => PyProof.Rows.args_nil ?_) na) na rfl
  obtain ⟨l, ks, d, rfl, hq, hk, fe, h1, hd, q1⟩ := q1
  cases r1
  obtain ⟨its, r, pl, hz⟩ := I1.list hq
  refine call_set (P := X.prog) (w := X.w) ks (I1.ok.hd hc) pl.isList (by simpa using refs_of_vals r) (fun p hp => I1.isT (hk p hp)) fe (by omega) fun h' tk L es ep t R g hk' => PyProof.Rows.args_nil ?_
  have gi := got_is g R.nd
  have I2 : Inv X pins σ H1 { s1 with heap := h', toks := tk } := I1.kept fun b o e => hk' b o e
  have R2 : SG X.prog X.w ({ s1 with heap := h', toks := tk } : Shared).heap s1.heap.objs.size L es ep t := R
  generalize ({ s1 with heap := h', toks := tk } : Shared) = s2 at I2 R2 ⊢
  refine sort_set (s := s2) R2 (I1.ok.hd hc) h1 (fun p hp => hd p (gi.1 p hp)) fun s' pn out n kp eg eo hp hget pm pw => ?_
  -- the rows in the order of the values
  have ord : ∀ vs : List Value, (∀ v ∈ vs, ∃ q ∈ L, v = Value.ref q.1) → ∃ L1 : List (Addr × List Int), vs = L1.map (fun q => Value.ref q.1) ∧ ∀ q ∈ L1, q ∈ L := fun vs => by
    induction vs with
    | nil => exact fun _ => ⟨[], rfl, fun q hq => by cases hq⟩
    | cons v vs ih =>
      intro hv
      obtain ⟨q, hq, rfl⟩ := hv v List.mem_cons_self
      obtain ⟨L1, rfl, hs⟩ := ih fun u hu => hv u (List.mem_cons_of_mem _ hu)
      exact ⟨q :: L1, rfl, fun r hr => by rcases List.mem_cons.mp hr with rfl | hr; exact hq; exact hs r hr⟩
  have one : ∀ q ∈ L, ∀ r ∈ L, q.1 = r.1 → q = r := fun q hq r hr e => by
    have a1 := R2.tu q hq
    rw [e] at a1
    exact Prod.ext e (a1.inj (R2.tu r hr))
  have nL : L.Nodup := nodup_of_map R2.nd
  obtain ⟨L', eL, hs⟩ := ord out fun v hv => by
    obtain ⟨q, hq, e⟩ := List.mem_map.mp (pm.mem_iff.mp hv)
    exact ⟨q, hq, e.symm⟩
  have nref : (L.map fun q => Value.ref q.1).Nodup := List.pairwise_map.mpr (nL.imp_of_mem fun {q r} hq hr ne e => by
    injection e with e
    exact ne (one q hq r hr e))
  have nL' : L'.Nodup := nodup_of_map (by rw [← eL]; exact pm.nodup_iff.mpr nref)
  have pL : L'.Perm L := (List.perm_ext_iff_of_nodup nL' nL).mpr fun q => ⟨hs q, fun hq => by
    have hm : Value.ref q.1 ∈ L'.map fun q => Value.ref q.1 := by rw [← eL]; exact pm.mem_iff.mpr (List.mem_map.mpr ⟨q, hq, rfl⟩)
    obtain ⟨r, hr, e⟩ := List.mem_map.mp hm
    injection e with e
    rw [← one r (hs r hr) q hq e]
    exact hr⟩
  have gi' : SetIs ks L' := ⟨fun q hq => gi.1 q (hs q hq), fun q hq => (pL.map (·.2)).mem_iff.mpr (gi.2.1 q hq), (pL.map (·.2)).nodup_iff.mpr gi.2.2⟩
  have pw' : L'.Pairwise (fun x y => lexL y.2 x.2 = false) := by
    rw [eL] at pw
    refine List.Pairwise.imp_of_mem (fun {q r} hq hr h => ?_) (List.pairwise_map.mp pw)
    have f1 : TS.intsOf s2.heap (.ref q.1) = q.2 := (tupInts_of (P := X.prog) (w := X.w) (R2.tu q (hs q hq))).ints
    have f2 : TS.intsOf s2.heap (.ref r.1) = r.2 := (tupInts_of (P := X.prog) (w := X.w) (R2.tu r (hs r hr))).ints
    rw [← f1, ← f2]
    exact h
  have ll : L'.length < 4000 := by rw [pL.length_eq]; exact R2.fe
  have hn : H1 pn = none := I2.hok.fresh hp
  have hv : Vals (L'.map fun q => V.ref q.1) out := by rw [eL]; exact vals_of_refs L'
  have J : Inv X pins σ (upd H1 pn (.lst (L'.map fun q => V.ref q.1))) { s2 with heap := s'.heap, gens := s'.gens, drawn := s'.drawn, toks := s'.toks } :=
    I2.call (ch := []) (Un.laid kp hp hn) (I2.hok.laid kp hp ⟨by rw [List.length_map, sizeLine_eq]; omega, out, n, hv, hget⟩) (by rw [eg]; exact I2.bare) (fun _ z => nomatch z)
  have e : s' = { s2 with heap := s'.heap, gens := s'.gens, drawn := s'.drawn, toks := s'.toks } := by
    cases s'
    cases s2
    cases eo
    rfl
  rw [e]
  exact ⟨.ref pn, _, J, rfl, q1 L' pn gi' pw' hn⟩
end
end Zb
namespace Z
open PySem PySem.Spec PyProof.Rows L2 Zb
section
variable {α : Type} [Py α] [Ktup α] {K : PySem.W.Frag} {H Ho : Hp} {R : Grp} {v : V} {Q : VK} {σ : L2.St} {te : TE}
/-- each one once -/
def ddK : List α → List α
  | [] => []
  | x :: l => if Ktup.key x ∈ l.map Ktup.key then ddK l else x :: ddK l
theorem ddK_mem {x : α} : ∀ {l : List α}, x ∈ ddK l ↔ x ∈ l
  | [] => Iff.rfl
  | y :: l => by
    unfold ddK
    split
    · rename_i h
      rw [ddK_mem, List.mem_cons]
      refine ⟨.inr, fun z => z.elim (fun e => ?_) id⟩
      obtain ⟨u, hu, eu⟩ := List.mem_map.mp h
      rw [e, ← Ktup.inj u y eu]
      exact hu
    · rw [List.mem_cons, List.mem_cons, ddK_mem]
theorem ddK_nd : ∀ l : List α, (ddK l).Nodup
  | [] => List.nodup_nil
  | y :: l => by
    unfold ddK
    split
    · exact ddK_nd l
    · rename_i h
      exact List.nodup_cons.mpr ⟨fun z => h (List.mem_map.mpr ⟨y, ddK_mem.mp z, rfl⟩), ddK_nd l⟩
theorem key_nd {l : List α} (h : l.Nodup) : (l.map Ktup.key).Nodup := List.pairwise_map.mpr (List.Pairwise.imp (fun ne e => ne (Ktup.inj _ _ e)) h)
theorem set_keys {xs : List α} {ks L : List (Addr × List Int)} (s : SetL Ho ks xs) (h : SetIs ks L) : (L.map (·.2)).Perm ((ddK xs).map Ktup.key) := by
  refine (List.perm_ext_iff_of_nodup h.2.2 (key_nd (ddK_nd xs))).mpr fun k => ⟨fun hk => ?_, fun hk => ?_⟩
  · obtain ⟨p, hp, rfl⟩ := List.mem_map.mp hk
    obtain ⟨x, hx, e, _⟩ := s.1 p (h.1 p hp)
    exact List.mem_map.mpr ⟨x, ddK_mem.mpr hx, e.symm⟩
  · obtain ⟨x, hx, rfl⟩ := List.mem_map.mp hk
    obtain ⟨p, hp, e⟩ := s.2 x (ddK_mem.mp hx)
    rw [← e]
    exact h.2.1 p hp
theorem set_sqt {xs : List α} {ks : List (Addr × List Int)} (z : Zs R H Ho) (s : SetL Ho ks xs) : ∀ p ∈ ks, SqT K H p.1 (p.2.map V.int) := fun p hp => by
  obtain ⟨x, _, e, ht⟩ := s.1 p hp
  rw [e]
  exact SqT.of (z.le _ _ ht)
theorem k_lenSet (k : te σ H fun x H1 => LenSetK K Q x H1) : tLenSetB K te σ H Q := k
theorem y_lenSet {xs : List α} (d : LV K R Ho v xs) (z : Zs R H Ho) (hl : xs.length < 4000) (k : Q (.int ((ddK xs).length : Int)) H) : LenSetK K Q v H := by
  obtain ⟨p, vs, rfl, d, s⟩ := LV.rd d z
  obtain ⟨ks, rfl, sl, hk⟩ := dl_ks d
  refine ⟨p, ks, rfl, s, set_sqt z sl, by omega, fun L h => ?_⟩
  have := (set_keys sl h).length_eq
  rw [List.length_map, List.length_map] at this
  rw [this]
  exact k
theorem k_srtSet (k : te σ H fun x H1 => SrtSetK K Q x H1) : tSrtSetB K te σ H Q := k
theorem y_srtSet {xs : List α} (d : LV K R Ho v xs) (z : Zs R H Ho) (hl : xs.length < 4000) (k : ∀ H' p ws, Zs ((p, .lst ws) :: R) H' Ho → DL K Ho ws (srtK (ddK xs)) → Q (.ref p) H') : SrtSetK K Q v H := by
  obtain ⟨p, vs, rfl, d, s⟩ := LV.rd d z
  obtain ⟨ks, rfl, sl, hk⟩ := dl_ks d
  refine ⟨p, ks, Ktup.d α, rfl, s, set_sqt z sl, by omega, Ktup.pos, fun q hq => ?_, fun L pn h pw hn => ?_⟩
  · obtain ⟨x, _, e, _⟩ := sl.1 q hq
    rw [e, Ktup.len]
  · obtain ⟨ys, e1, e2, e3⟩ := ks_dl (K := K) (Ho := Ho) (xs := xs) (L := L) fun q hq => sl.1 q (h.1 q hq)
    have ny : ys.Nodup := nodup_of_map (f := Ktup.key) (by rw [e1]; exact h.2.2)
    have py : ys.Perm (ddK xs) := (List.perm_ext_iff_of_nodup ny (ddK_nd xs)).mpr fun y => ⟨fun hy => ddK_mem.mpr (e3 y hy), fun hy => by
      have : Ktup.key y ∈ ys.map Ktup.key := by
        rw [e1]
        exact (set_keys sl h).mem_iff.mpr (List.mem_map.mpr ⟨y, hy, rfl⟩)
      obtain ⟨y', hy', e⟩ := List.mem_map.mp this
      rw [← Ktup.inj y' y e]
      exact hy'⟩
    have pwy : ys.Pairwise (fun x y => leK x y = true) := by
      have h1 : (ys.map Ktup.key).Pairwise (fun x y => lexL y x = false) := by
        rw [e1]
        exact List.pairwise_map.mpr pw
      refine List.Pairwise.imp (fun h => ?_) (List.pairwise_map.mp h1)
      unfold leK
      rw [h]
      rfl
    have e := srtK_of py pwy
    rw [e] at e2
    exact k _ pn _ (z.root hn) e2
end
end Z

/-! # Ym: what the computations promise, in plain Lean -/
namespace Z
open PySem L2
section
variable {α β γ S ρ : Type}
theorem run_bind {c : W α} {f : α → W β} {Φ : β → Prop} : (W.bind c f).run Φ = c.run fun a => (f a).run Φ := propext ⟨fun h => h, fun h => h⟩
theorem run_bind2 {c : W (α × β)} {f : α → β → W γ} {Φ : γ → Prop} : (W.bind2 c f).run Φ = c.run fun r => (f r.1 r.2).run Φ := propext ⟨fun h => h, fun h => h⟩
theorem run_rt {a : α} {Φ : α → Prop} : (W.ret a).run Φ = Φ a := propext ⟨fun h => h, fun h => h⟩
theorem run_guard {p : Prop} {c : W α} {Φ : α → Prop} : (W.guard p c).run Φ = (p ∧ c.run Φ) := propext ⟨fun h => h, fun h => h⟩
theorem run_opt {o : Option α} {Φ : α → Prop} : (W.opt o).run Φ = ∃ a, o = some a ∧ Φ a := propext ⟨fun h => h, fun h => h⟩
theorem run_ite {b : Bool} {x y : W α} {Φ : α → Prop} : (W.ite b x y).run Φ = ((b = true → x.run Φ) ∧ (b = false → y.run Φ)) := propext ⟨fun h => h, fun h => h⟩
theorem run_if {b : Bool} {x y : W α} {Φ : α → Prop} : (W.ite b x y).run Φ = (if b = true then x.run Φ else y.run Φ) := by
  rw [run_ite]; cases b <;> simp
theorem run_mono {c : W α} {Φ Φ' : α → Prop} (h : c.run Φ) (k : ∀ a, Φ a → Φ' a) : c.run Φ' := c.mono _ _ k h
theorem atI_some {xs : List α} {i : Int} (h0 : 0 ≤ i) (h : i < xs.length) : ∃ a, a ∈ xs ∧ atI xs i = some a := by
  obtain ⟨j, rfl⟩ : ∃ j : Nat, i = j := ⟨i.toNat, by omega⟩
  have hj : j < xs.length := by omega
  exact ⟨xs[j], List.getElem_mem hj, atI_nat (List.getElem?_eq_getElem hj)⟩
theorem atI_get' {xs : List α} {i : Int} {a : α} (h0 : 0 ≤ i) (h : xs[i.toNat]? = some a) : atI xs i = some a := by
  obtain ⟨j, rfl⟩ : ∃ j : Nat, i = j := ⟨i.toNat, by omega⟩
  exact atI_nat (by simpa using h)
theorem ixN_nat' {n : Nat} {i : Int} (h0 : 0 ≤ i) (h : i < n) : ixN n i = some i.toNat := by
  unfold ixN
  rw [if_pos h0, if_pos h]
theorem forL_wp (Inv : Nat → S → Prop) {xs : List α} {s : S} {f : α → S → W S} {Φ : S → Prop} (h0 : Inv 0 s) (step : ∀ i x s, xs[i]? = some x → Inv i s → (f x s).run (Inv (i + 1))) (k : ∀ s, Inv xs.length s → Φ s) : (W.forL xs s f).run Φ := by
  induction xs generalizing s Inv with
  | nil => exact k s h0
  | cons x xs ih =>
    show (f x s).run (fun s' => (W.forL xs s' f).run Φ)
    refine run_mono (step 0 x s rfl h0) fun s' h' => ?_
    exact ih (fun i => Inv (i + 1)) h' (fun i y s hy hi => step (i + 1) y s (by simpa using hy) hi) fun s hs => k s hs
theorem forC_wp (Inv : Nat → S → Prop) {xs : List α} {s : S} {f : α → S → W (Ctl ρ S)} {Φ : Ctl ρ S → Prop} (h0 : Inv 0 s)
    (step : ∀ i x s, xs[i]? = some x → Inv i s → (f x s).run (CtlP (Inv (i + 1)) (fun s => Φ (.nx s)) (fun r => Φ (.rt r)))) (k : ∀ s, Inv xs.length s → Φ (.nx s)) : (W.forC xs s f).run Φ := by
  induction xs generalizing s Inv with
  | nil => exact k s h0
  | cons x xs ih =>
    show (W.bind (f x s) _).run Φ
    rw [run_bind]
    refine run_mono (step 0 x s rfl h0) fun c hc => ?_
    cases c with
    | nx s' => exact ih (fun i => Inv (i + 1)) hc (fun i y s hy hi => step (i + 1) y s (by simpa using hy) hi) fun s hs => k s hs
    | bk s' => exact hc
    | rt r => exact hc
theorem comp_wp {xs : List α} {acc : List β} {ct : α → W Bool} {cf : α → W β} (t : α → Bool) (f : α → β) {Φ : List β → Prop} (ht : ∀ x ∈ xs, ∀ Ψ : Bool → Prop, Ψ (t x) → (ct x).run Ψ) (hf : ∀ x ∈ xs, t x = true → ∀ Ψ : β → Prop, Ψ (f x) → (cf x).run Ψ)
    (k : Φ (acc ++ (xs.filter t).map f)) : (comp xs acc ct cf).run Φ := by
  induction xs generalizing acc with
  | nil =>
    simp at k
    exact k
  | cons x xs ih =>
    refine ht x List.mem_cons_self _ ⟨fun e => ?_, fun e => ?_⟩
    · refine hf x List.mem_cons_self e _ (ih (fun y hy => ht y (List.mem_cons_of_mem _ hy)) (fun y hy => hf y (List.mem_cons_of_mem _ hy)) ?_)
      simpa [List.filter_cons, e] using k
    · refine ih (fun y hy => ht y (List.mem_cons_of_mem _ hy)) (fun y hy => hf y (List.mem_cons_of_mem _ hy)) ?_
      simpa [List.filter_cons, e] using k
theorem compG_wp {xs : List α} {ct : α → W Bool} {cf : α → W β} (t : α → Bool) (f : α → β) {Φ : List β → Prop} (hl : xs.length ≤ sizeLine) (ht : ∀ x ∈ xs, ∀ Ψ : Bool → Prop, Ψ (t x) → (ct x).run Ψ) (hf : ∀ x ∈ xs, t x = true → ∀ Ψ : β → Prop, Ψ (f x) → (cf x).run Ψ)
    (k : Φ ((xs.filter t).map f)) : (compG xs ct cf).run Φ := ⟨hl, comp_wp t f ht hf (by simpa using k)⟩
theorem small {n : Nat} (h : n ≤ 100000) : n ≤ sizeLine := Nat.le_trans h (by decide)
theorem small' {n : Nat} (h : n ≤ 100000) : n < sizeLine := Nat.lt_of_le_of_lt h (by decide)
theorem apd_wp {xs : List α} {x : α} {Φ : List α → Prop} (h : xs.length ≤ 100000) (k : Φ (xs ++ [x])) : (apd xs x).run Φ := ⟨small' h, k⟩
theorem sti_wp {xs : List α} {i : Int} {y : α} {Φ : List α → Prop} (h0 : 0 ≤ i) (h : i < xs.length) (k : Φ (xs.set i.toNat y)) : (sti xs i y).run Φ := ⟨i.toNat, ixN_nat' h0 h, k⟩
/-! slices -/
theorem sIx_none (n d : Nat) : HT.sIx n d none = d := HT.sIx_none n d
theorem cut_to {xs : List α} {k : Int} (h0 : 0 ≤ k) : cut xs none (some k) = xs.take k.toNat := by
  obtain ⟨j, rfl⟩ : ∃ j : Nat, k = j := ⟨k.toNat, by omega⟩
  unfold cut
  rw [HT.sIx_none, HT.sIx_nat]
  simp only [List.drop_zero, Nat.sub_zero, Int.toNat_natCast]
  by_cases h : j ≤ xs.length
  · rw [Nat.min_eq_left h]
  · rw [Nat.min_eq_right (by omega), List.take_of_length_le (Nat.le_refl _), List.take_of_length_le (by omega)]
theorem cut_init {xs : List α} : cut xs none (some (-1)) = xs.dropLast := by
  unfold cut
  rw [HT.sIx_none]
  have e : HT.sIx xs.length xs.length (some (-1)) = xs.length - 1 := by
    simp only [HT.sIx]
    rw [if_pos (by decide)]
    omega
  rw [e]
  simp [List.dropLast_eq_take]
theorem cut_from {xs : List α} {k : Int} (h0 : 0 ≤ k) : cut xs (some k) none = xs.drop k.toNat := by
  obtain ⟨j, rfl⟩ : ∃ j : Nat, k = j := ⟨k.toNat, by omega⟩
  unfold cut
  rw [HT.sIx_none, HT.sIx_nat]
  simp only [Int.toNat_natCast]
  by_cases h : j ≤ xs.length
  · rw [Nat.min_eq_left h, List.take_of_length_le (by simp)]
  · rw [Nat.min_eq_right (by omega)]
    simp
    omega
end
/-! ### equal data -/
/-- data that == tells apart as Lean does, and that may be compared -/
class Eqv (α : Type) [Py α] where
  eqv : ∀ x y : α, PyData.eqv (toPy x) (toPy y) = true ↔ x = y
  d : Nat
  shape : ∀ x : α, (toPy x).depth ≤ d
theorem eqvAll_map {α : Type} [Py α] [Eqv α] : ∀ xs ys : List α, PyData.eqvAll (xs.map Py.toPy) (ys.map Py.toPy) = true ↔ xs = ys
  | [], [] => by simp [PyData.eqvAll]
  | [], y :: ys => by simp [PyData.eqvAll]
  | x :: xs, [] => by simp [PyData.eqvAll]
  | x :: xs, y :: ys => by
    have h1 := Eqv.eqv x y
    have h2 := eqvAll_map xs ys
    simp only [List.map_cons, PyData.eqvAll, Bool.and_eq_true, List.cons.injEq]
    rw [← h1, ← h2]
theorem depthAll_map {α : Type} [Py α] [Eqv α] : ∀ xs : List α, PyData.depthAll (xs.map Py.toPy) ≤ Eqv.d α
  | [] => by simp [PyData.depthAll]
  | x :: xs => by
    have h1 := Eqv.shape x
    have h2 := depthAll_map xs
    simp only [List.map_cons, PyData.depthAll]
    exact Nat.max_le.mpr ⟨h1, h2⟩
instance : Eqv Int := ⟨fun x y => by simp [toPy, Py.toPy, PyData.eqv], 0, fun x => by simp [toPy, Py.toPy, PyData.depth]⟩
instance : Eqv Bool := ⟨fun x y => by simp [toPy, Py.toPy, PyData.eqv], 0, fun x => by simp [toPy, Py.toPy, PyData.depth]⟩
instance : Eqv Str := ⟨fun x y => by simp [toPy, Py.toPy, PyData.eqv], 0, fun x => by simp [toPy, Py.toPy, PyData.depth]⟩
instance {α : Type} [Py α] [Eqv α] : Eqv (List α) := ⟨fun x y => by
  show PyData.eqv (.list (x.map Py.toPy)) (.list (y.map Py.toPy)) = true ↔ x = y
  simp only [PyData.eqv]
  exact eqvAll_map x y, Eqv.d α + 1, fun x => by
  show PyData.depth (.list (x.map Py.toPy)) ≤ _
  simp only [PyData.depth]
  exact Nat.succ_le_succ (depthAll_map x)⟩
instance {α β : Type} [Py α] [Py β] [Eqv α] [Eqv β] : Eqv (α × β) := ⟨fun x y => by
  obtain ⟨x1, x2⟩ := x
  obtain ⟨y1, y2⟩ := y
  show PyData.eqv (.tuple [toPy x1, toPy x2]) (.tuple [toPy y1, toPy y2]) = true ↔ _
  simp only [PyData.eqv, PyData.eqvAll, Bool.and_eq_true, Bool.and_true, Prod.mk.injEq]
  rw [Eqv.eqv x1 y1, Eqv.eqv x2 y2], Eqv.d α + Eqv.d β + 1, fun x => by
  obtain ⟨x1, x2⟩ := x
  show PyData.depth (.tuple [toPy x1, toPy x2]) ≤ _
  have h1 := Eqv.shape x1
  have h2 := Eqv.shape x2
  simp only [PyData.depth, PyData.depthAll]
  omega⟩
instance {α β γ : Type} [Py α] [Py β] [Py γ] [Eqv α] [Eqv β] [Eqv γ] : Eqv (P3 α β γ) := ⟨fun x y => by
  obtain ⟨x1, x2, x3⟩ := x
  obtain ⟨y1, y2, y3⟩ := y
  show PyData.eqv (.tuple [toPy x1, toPy x2, toPy x3]) (.tuple [toPy y1, toPy y2, toPy y3]) = true ↔ _
  simp only [PyData.eqv, PyData.eqvAll, Bool.and_eq_true, Bool.and_true, P3.mk.injEq]
  rw [Eqv.eqv x1 y1, Eqv.eqv x2 y2, Eqv.eqv x3 y3], Eqv.d α + Eqv.d β + Eqv.d γ + 1, fun x => by
  obtain ⟨x1, x2, x3⟩ := x
  show PyData.depth (.tuple [toPy x1, toPy x2, toPy x3]) ≤ _
  have h1 := Eqv.shape x1
  have h2 := Eqv.shape x2
  have h3 := Eqv.shape x3
  simp only [PyData.depth, PyData.depthAll]
  omega⟩
instance {α β γ δ : Type} [Py α] [Py β] [Py γ] [Py δ] [Eqv α] [Eqv β] [Eqv γ] [Eqv δ] : Eqv (P4 α β γ δ) := ⟨fun x y => by
  obtain ⟨x1, x2, x3, x4⟩ := x
  obtain ⟨y1, y2, y3, y4⟩ := y
  show PyData.eqv (.tuple [toPy x1, toPy x2, toPy x3, toPy x4]) (.tuple [toPy y1, toPy y2, toPy y3, toPy y4]) = true ↔ _
  simp only [PyData.eqv, PyData.eqvAll, Bool.and_eq_true, Bool.and_true, P4.mk.injEq]
  rw [Eqv.eqv x1 y1, Eqv.eqv x2 y2, Eqv.eqv x3 y3, Eqv.eqv x4 y4], Eqv.d α + Eqv.d β + Eqv.d γ + Eqv.d δ + 1, fun x => by
  obtain ⟨x1, x2, x3, x4⟩ := x
  show PyData.depth (.tuple [toPy x1, toPy x2, toPy x3, toPy x4]) ≤ _
  have h1 := Eqv.shape x1
  have h2 := Eqv.shape x2
  have h3 := Eqv.shape x3
  have h4 := Eqv.shape x4
  simp only [PyData.depth, PyData.depthAll]
  omega⟩
theorem eqD_iff {α : Type} [Py α] [Eqv α] {x y : α} : eqD x y = true ↔ x = y := Eqv.eqv x y
theorem eqD_dec {α : Type} [Py α] [Eqv α] [DecidableEq α] {x y : α} : eqD x y = decide (x = y) := by
  by_cases h : x = y
  · rw [decide_eq_true h]; exact eqD_iff.mpr h
  · rw [decide_eq_false h]
    cases e : eqD x y with
    | false => rfl
    | true => exact absurd (eqD_iff.mp e) h
theorem eqD_self {α : Type} [Py α] [Eqv α] (x : α) : eqD x x = true := eqD_iff.mpr rfl
/-- what may be laid at all: the texts in it are of signs that there are -/
class Lay (α : Type) [Py α] where
  ok : α → Prop
  lay : ∀ x : α, ok x → (toPy x).canLay0 = true
theorem canLayAll_map {α : Type} [Py α] [Lay α] : ∀ xs : List α, (∀ x ∈ xs, Lay.ok x) → PyData.canLayAll0 (xs.map Py.toPy) = true
  | [], _ => by simp [PyData.canLayAll0]
  | x :: xs, h => by
    simp only [List.map_cons, PyData.canLayAll0, Bool.and_eq_true]
    exact ⟨Lay.lay x (h x List.mem_cons_self), canLayAll_map xs fun y hy => h y (List.mem_cons_of_mem _ hy)⟩
instance : Lay Int := ⟨fun _ => True, fun x _ => by simp [toPy, Py.toPy, PyData.canLay0]⟩
instance : Lay Bool := ⟨fun _ => True, fun x _ => by simp [toPy, Py.toPy, PyData.canLay0]⟩
instance : Lay Str := ⟨fun x => PyData.strOk x = true, fun x h => by simpa [toPy, Py.toPy, PyData.canLay0] using h⟩
instance {α : Type} [Py α] [Lay α] : Lay (List α) := ⟨fun xs => ∀ x ∈ xs, Lay.ok x, fun xs h => by
  show PyData.canLay0 (.list (xs.map Py.toPy)) = true
  simp only [PyData.canLay0]
  exact canLayAll_map xs h⟩
instance {α β : Type} [Py α] [Py β] [Lay α] [Lay β] : Lay (α × β) := ⟨fun x => Lay.ok x.1 ∧ Lay.ok x.2, fun x h => by
  show PyData.canLay0 (.tuple [toPy x.1, toPy x.2]) = true
  simp only [PyData.canLay0, PyData.canLayAll0, Bool.and_eq_true, Bool.and_true]
  exact ⟨Lay.lay _ h.1, Lay.lay _ h.2⟩⟩
instance {α β γ : Type} [Py α] [Py β] [Py γ] [Lay α] [Lay β] [Lay γ] : Lay (P3 α β γ) := ⟨fun x => Lay.ok x.a ∧ Lay.ok x.b ∧ Lay.ok x.c, fun x h => by
  show PyData.canLay0 (.tuple [toPy x.a, toPy x.b, toPy x.c]) = true
  simp only [PyData.canLay0, PyData.canLayAll0, Bool.and_eq_true, Bool.and_true]
  exact ⟨Lay.lay _ h.1, Lay.lay _ h.2.1, Lay.lay _ h.2.2⟩⟩
instance {α β γ δ : Type} [Py α] [Py β] [Py γ] [Py δ] [Lay α] [Lay β] [Lay γ] [Lay δ] : Lay (P4 α β γ δ) := ⟨fun x => Lay.ok x.a ∧ Lay.ok x.b ∧ Lay.ok x.c ∧ Lay.ok x.d, fun x h => by
  show PyData.canLay0 (.tuple [toPy x.a, toPy x.b, toPy x.c, toPy x.d]) = true
  simp only [PyData.canLay0, PyData.canLayAll0, Bool.and_eq_true, Bool.and_true]
  exact ⟨Lay.lay _ h.1, Lay.lay _ h.2.1, Lay.lay _ h.2.2.1, Lay.lay _ h.2.2.2⟩⟩
theorem okD_of {α : Type} [Py α] [Eqv α] [Lay α] {x : α} (h : Lay.ok x) (hd : Eqv.d α ≤ 64 := by decide) : okD x := by
  unfold okD SeqAt.shaped
  rw [Bool.and_eq_true]
  exact ⟨Lay.lay x h, decide_eq_true (Nat.le_trans (Eqv.shape x) hd)⟩
/-- kinds in which no text stands -/
class Pl (α : Type) [Py α] : Prop where
  lay : ∀ x : α, (toPy x).canLay0 = true
theorem plAll {α : Type} [Py α] [Pl α] : ∀ xs : List α, PyData.canLayAll0 (xs.map Py.toPy) = true
  | [] => by simp [PyData.canLayAll0]
  | x :: xs => by
    simp only [List.map_cons, PyData.canLayAll0, Bool.and_eq_true]
    exact ⟨Pl.lay x, plAll xs⟩
instance : Pl Int := ⟨fun x => by simp [toPy, Py.toPy, PyData.canLay0]⟩
instance : Pl Bool := ⟨fun x => by simp [toPy, Py.toPy, PyData.canLay0]⟩
instance : Pl Unit := ⟨fun x => by simp [toPy, Py.toPy, PyData.canLay0]⟩
instance {α : Type} [Py α] [Pl α] : Pl (List α) := ⟨fun xs => by
  show PyData.canLay0 (.list (xs.map Py.toPy)) = true
  simp only [PyData.canLay0]
  exact plAll xs⟩
instance {α : Type} [Py α] [Pl α] : Pl (Option α) := ⟨fun x => by
  cases x with
  | none => show PyData.canLay0 .none = true; simp [PyData.canLay0]
  | some a => exact Pl.lay a⟩
instance {α β : Type} [Py α] [Py β] [Pl α] [Pl β] : Pl (α × β) := ⟨fun x => by
  show PyData.canLay0 (.tuple [toPy x.1, toPy x.2]) = true
  simp only [PyData.canLay0, PyData.canLayAll0, Bool.and_eq_true, Bool.and_true]
  exact ⟨Pl.lay _, Pl.lay _⟩⟩
instance {α β γ : Type} [Py α] [Py β] [Py γ] [Pl α] [Pl β] [Pl γ] : Pl (P3 α β γ) := ⟨fun x => by
  show PyData.canLay0 (.tuple [toPy x.a, toPy x.b, toPy x.c]) = true
  simp only [PyData.canLay0, PyData.canLayAll0, Bool.and_eq_true, Bool.and_true]
  exact ⟨Pl.lay _, Pl.lay _, Pl.lay _⟩⟩
instance {α β γ δ : Type} [Py α] [Py β] [Py γ] [Py δ] [Pl α] [Pl β] [Pl γ] [Pl δ] : Pl (P4 α β γ δ) := ⟨fun x => by
  show PyData.canLay0 (.tuple [toPy x.a, toPy x.b, toPy x.c, toPy x.d]) = true
  simp only [PyData.canLay0, PyData.canLayAll0, Bool.and_eq_true, Bool.and_true]
  exact ⟨Pl.lay _, Pl.lay _, Pl.lay _, Pl.lay _⟩⟩
/-- kinds that are never None -/
class Nn (α : Type) [Py α] : Prop where
  ne : ∀ x : α, toPy x ≠ .none
  l : ∀ x : α, PyData.eqv (toPy x) .none = false
  r : ∀ x : α, PyData.eqv .none (toPy x) = false
instance : Nn Int := ⟨fun x e => (by cases e), fun x => (by simp [toPy, Py.toPy, PyData.eqv]), fun x => (by simp [toPy, Py.toPy, PyData.eqv])⟩
instance : Nn Bool := ⟨fun x e => (by cases e), fun x => (by simp [toPy, Py.toPy, PyData.eqv]), fun x => (by simp [toPy, Py.toPy, PyData.eqv])⟩
instance : Nn Str := ⟨fun x e => (by cases e), fun x => (by simp [toPy, Py.toPy, PyData.eqv]), fun x => (by simp [toPy, Py.toPy, PyData.eqv])⟩
instance {α : Type} [Py α] : Nn (List α) := ⟨fun x e => (by cases e), fun x => (by simp [toPy, Py.toPy, PyData.eqv]), fun x => (by simp [toPy, Py.toPy, PyData.eqv])⟩
instance {α β : Type} [Py α] [Py β] : Nn (α × β) := ⟨fun x e => (by cases e), fun x => (by simp [toPy, Py.toPy, PyData.eqv]), fun x => (by simp [toPy, Py.toPy, PyData.eqv])⟩
instance {α β γ : Type} [Py α] [Py β] [Py γ] : Nn (P3 α β γ) := ⟨fun x e => (by cases e), fun x => (by simp [toPy, Py.toPy, PyData.eqv]), fun x => (by simp [toPy, Py.toPy, PyData.eqv])⟩
instance {α β γ δ : Type} [Py α] [Py β] [Py γ] [Py δ] : Nn (P4 α β γ δ) := ⟨fun x e => (by cases e), fun x => (by simp [toPy, Py.toPy, PyData.eqv]), fun x => (by simp [toPy, Py.toPy, PyData.eqv])⟩
theorem nn {α : Type} [Py α] [Nn α] {x : Option α} : ∀ b : α, x = some b → toPy b ≠ .none := fun b _ => Nn.ne b
instance {α : Type} [Py α] [Eqv α] [Nn α] : Eqv (Option α) := ⟨fun x y => by
  cases x with
  | none =>
    cases y with
    | none => show PyData.eqv .none .none = true ↔ _; simp [PyData.eqv]
    | some b => show PyData.eqv .none (toPy b) = true ↔ _; rw [Nn.r]; simp
  | some a =>
    cases y with
    | none => show PyData.eqv (toPy a) .none = true ↔ _; rw [Nn.l]; simp
    | some b => show PyData.eqv (toPy a) (toPy b) = true ↔ _; rw [Eqv.eqv a b]; simp, Eqv.d α, fun x => by
  cases x with
  | none => show PyData.depth .none ≤ _; simp [PyData.depth]
  | some a => exact Eqv.shape a⟩
theorem okD_pl {α : Type} [Py α] [Eqv α] [Pl α] (x : α) (hd : Eqv.d α ≤ 64 := by decide) : okD x := by
  unfold okD SeqAt.shaped
  rw [Bool.and_eq_true]
  exact ⟨Pl.lay x, decide_eq_true (Nat.le_trans (Eqv.shape x) hd)⟩
theorem inD_iff {α : Type} [Py α] [Eqv α] {x : α} {ys : List α} : inD x ys = true ↔ x ∈ ys := by
  unfold inD
  rw [List.any_eq_true]
  constructor
  · rintro ⟨y, hy, e⟩
    rw [← eqD_iff.mp e]; exact hy
  · intro h
    exact ⟨x, h, eqD_self x⟩
theorem inD_dec {α : Type} [Py α] [Eqv α] [DecidableEq α] {x : α} {ys : List α} : inD x ys = decide (x ∈ ys) := by
  by_cases h : x ∈ ys
  · rw [decide_eq_true h]; exact inD_iff.mpr h
  · rw [decide_eq_false h]
    cases e : inD x ys with
    | false => rfl
    | true => exact absurd (inD_iff.mp e) h
end Z

namespace M
open PySem L2 Z


def m_names_L1 (hand_ : Int) (kind_ : Str) (cell_ : Int) (many_ : (List Int)) (found_ : (List (Int × Int))) : W ((List Int) × (List (Int × Int))) :=
  W.bind (W.opt (atI many_ hand_)) fun t14 => W.bind (apd found_ (hand_, t14)) fun found_ => W.bind (W.opt (atI many_ hand_)) fun t18 => W.bind (sti many_ hand_ (t18 + (1 : Int))) fun many_ => W.ret ((many_, found_))
def m_names (web_ : (List (P3 Int Str Int))) : W ((List (Int × Int))) :=
  W.guard (repG ([(0 : Int)] : (List Int)) (8 : Int)) (W.bind (W.ret (repL ([(0 : Int)] : (List Int)) (8 : Int))) fun many_ => W.bind (W.ret ([] : (List (Int × Int)))) fun found_ => W.bind (W.forL web_ (many_, found_) (fun a s => m_names_L1 a.a a.b a.c s.1 s.2)) (fun s => (fun many_ found_ => W.ret found_) s.1 s.2))
def m_places_of_L1 (called_ : (List (Int × Int))) (place_ : Int) (found_ : (Dc (Int × Int) Int)) : W ((Dc (Int × Int) Int)) :=
  W.bind (W.opt (atI called_ place_)) fun t9 => W.bind (putG found_ t9 place_) fun found_ => W.ret (found_)
def m_places_of (web_ : (List (P3 Int Str Int))) : W ((Dc (Int × Int) Int)) :=
  W.bind (m_names web_) fun t1 => W.bind (W.ret t1) fun called_ => W.bind (W.ret ([] : (Dc (Int × Int) Int))) fun found_ => W.guard (rngOk 0 ((web_).length : Int)) (W.bind (W.forL (rng 0 ((web_).length : Int)) found_ (fun a s => m_places_of_L1 called_ a s)) (fun s => (fun found_ => W.ret found_) s))
def m_touches_meet (one_ : (P3 Int Str Int)) (other_ : (P3 Int Str Int)) : W (Bool) :=
  W.ite ((decide (one_.a = other_.a)) || (!decide (one_.c = other_.c))) (W.ret false) (W.ret ((!decide (one_.b = ("load" : Str))) || (!decide (other_.b = ("load" : Str)))))
def m_is_step (web_ : (List (P3 Int Str Int))) (i_ : Int) (j_ : Int) : W (Bool) :=
  W.bind (W.opt (atI web_ i_)) fun t1 => W.bind (W.opt (atI web_ j_)) fun t4 => W.bind (W.ite (decide (t1.a = t4.a)) (W.ret true) (W.bind (W.opt (atI web_ i_)) fun t7 => W.bind (W.opt (atI web_ j_)) fun t9 => W.bind (m_touches_meet t7 t9) fun t11 => W.ret t11)) (fun t15 => W.ret t15)
def m_looked_back_L1 (web_ : (List (P3 Int Str Int))) (called_ : (List (Int × Int))) (table_ : (List (List Int))) (j_ : Int) (i_ : Int) (known_ : (List Int)) (firsts_ : (List Int)) : W ((List Int) × (List Int)) :=
  W.bind (W.opt (atI called_ i_)) fun t14 => W.bind (W.ret t14) fun u => (fun hand_ k_ => W.bind (W.opt (atI known_ hand_)) fun t18 => W.bind (W.ite (decide (k_ ≥ t18)) (W.bind (m_is_step web_ i_ j_) fun t20 => W.ret t20) (W.ret false)) (fun t24 => W.bind (W.ite t24 (W.bind (W.opt (atI table_ i_)) fun t28 => W.bind (compG (List.zip known_ t28) (fun a => (fun a_ b_ => W.ret true) a.1 a.2) (fun a => (fun a_ b_ => W.ret (if b_ > a_ then b_ else a_)) a.1 a.2)) fun t35 => W.bind (W.ret t35) fun known_ => W.bind (W.opt (atI called_ j_)) fun t38 => W.bind (W.ite (!decide (hand_ = t38.1)) (W.bind (apd firsts_ i_) fun firsts_ => W.ret (firsts_)) (W.ret (firsts_))) (fun s => (fun firsts_ => W.ret ((known_, firsts_))) s)) (W.ret ((known_, firsts_)))) (fun s => (fun known_ firsts_ => W.ret ((known_, firsts_))) s.1 s.2))) u.1 u.2
def m_looked_back (web_ : (List (P3 Int Str Int))) (called_ : (List (Int × Int))) (table_ : (List (List Int))) (j_ : Int) : W (((List Int) × (List Int))) :=
  W.guard (repG ([(0 : Int)] : (List Int)) (8 : Int)) (W.bind (W.ret (repL ([(0 : Int)] : (List Int)) (8 : Int))) fun known_ => W.bind (W.ret ([] : (List Int))) fun firsts_ => W.guard (rngOk (-(1 : Int)) (j_ - (1 : Int))) (W.bind (W.forL (rngD (j_ - (1 : Int)) (-(1 : Int))) (known_, firsts_) (fun a s => m_looked_back_L1 web_ called_ table_ j_ a s.1 s.2)) (fun s => (fun known_ firsts_ => W.bind (W.opt (atI called_ j_)) fun t44 => W.bind (W.opt (atI called_ j_)) fun t47 => W.bind (sti known_ t47.1 (t44.2 + (1 : Int))) fun known_ => W.ret (known_, firsts_)) s.1 s.2)))
def m_notes_L1 (web_ : (List (P3 Int Str Int))) (called_ : (List (Int × Int))) (j_ : Int) (table_ : (List (List Int))) (found_ : (List (P4 Int Int Int Int))) : W ((List (List Int)) × (List (P4 Int Int Int Int))) :=
  W.bind (m_looked_back web_ called_ table_ j_) fun t14 => W.bind (W.ret t14) fun u => (fun known_ firsts_ => W.bind (apd table_ known_) fun table_ => W.bind (compG firsts_ (fun i_ => W.ret true) (fun i_ => W.bind (W.opt (atI called_ i_)) fun t22 => W.bind (W.opt (atI called_ j_)) fun t24 => W.ret (⟨t22.1, t22.2, t24.1, t24.2⟩ : (P4 Int Int Int Int)))) fun t31 => W.bind (exd found_ t31) fun found_ => W.ret ((table_, found_))) u.1 u.2
def m_notes (web_ : (List (P3 Int Str Int))) : W ((List (P4 Int Int Int Int))) :=
  W.bind (m_names web_) fun t1 => W.bind (W.ret t1) fun called_ => W.bind (W.ret ([] : (List (List Int)))) fun table_ => W.bind (W.ret ([] : (List (P4 Int Int Int Int)))) fun found_ => W.guard (rngOk 0 ((web_).length : Int)) (W.bind (W.forL (rng 0 ((web_).length : Int)) (table_, found_) (fun a s => m_notes_L1 web_ called_ a s.1 s.2)) (fun s => (fun table_ found_ => W.ret (srtK found_)) s.1 s.2))
def m_ends_of (places_ : (Dc (Int × Int) Int)) (note_ : (P4 Int Int Int Int)) : W ((Int × Int)) :=
  W.bind (W.ret (valM places_ (note_.a, note_.b))) fun one_ => W.bind (W.ret (valM places_ (note_.c, note_.d))) fun other_ => W.bind (W.ite (decide (note_.a = note_.c)) (W.ret true) (W.guard (∀ b, one_ = some b → toPy b ≠ .none) (W.bind (W.ite (one_.isNone) (W.ret true) (W.guard (∀ b, other_ = some b → toPy b ≠ .none) (W.bind (W.ite (other_.isNone) (W.ret true) (W.bind (W.opt one_) fun t15 => W.bind (W.opt other_) fun t17 => W.ret (decide (t15 ≥ t17)))) (fun t19 => W.ret t19)))) (fun t23 => W.ret t23)))) (fun t27 => W.ite t27 (W.bad) (W.bind (W.opt one_) fun t31 => W.bind (W.opt other_) fun t33 => W.ret (t31, t33)))
def m_known_by_L1 (table_ : (List (List Int))) (j_ : Int) (one_ : Int) (other_ : Int) (known_ : (List Int)) : W ((List Int)) :=
  W.bind (W.ite (decide (other_ = j_)) (W.bind (W.opt (atI table_ one_)) fun t34 => W.bind (compG (List.zip known_ t34) (fun a => (fun a_ b_ => W.ret true) a.1 a.2) (fun a => (fun a_ b_ => W.ret (if b_ > a_ then b_ else a_)) a.1 a.2)) fun t41 => W.bind (W.ret t41) fun known_ => W.ret (known_)) (W.ret (known_))) (fun s => (fun known_ => W.ret (known_)) s)
def m_known_by_L2 (ends_ : (List (Int × Int))) (called_ : (List (Int × Int))) (j_ : Int) (last_ : (Dc Int (List Int))) (table_ : (List (List Int))) : W ((Dc Int (List Int)) × (List (List Int))) :=
  W.bind (W.opt (atI called_ j_)) fun t13 => W.bind (W.ret t13) fun u => (fun hand_ k_ => W.guard (repG ([(0 : Int)] : (List Int)) (8 : Int)) (W.bind (W.ret ((valM last_ hand_).getD (repL ([(0 : Int)] : (List Int)) (8 : Int)))) fun known_ => W.bind (W.forL ends_ known_ (fun a s => m_known_by_L1 table_ j_ a.1 a.2 s)) (fun s => (fun known_ => W.bind (sti known_ hand_ (k_ + (1 : Int))) fun known_ => W.bind (putG last_ hand_ known_) fun last_ => W.bind (apd table_ known_) fun table_ => W.ret ((last_, table_))) s))) u.1 u.2
def m_known_by (web_ : (List (P3 Int Str Int))) (ends_ : (List (Int × Int))) : W ((List (List Int))) :=
  W.bind (m_names web_) fun t1 => W.bind (W.ret t1) fun called_ => W.bind (W.ret ([] : (Dc Int (List Int)))) fun last_ => W.bind (W.ret ([] : (List (List Int)))) fun table_ => W.guard (rngOk 0 ((web_).length : Int)) (W.bind (W.forL (rng 0 ((web_).length : Int)) (last_, table_) (fun a s => m_known_by_L2 ends_ called_ a s.1 s.2)) (fun s => (fun last_ table_ => W.ret table_) s.1 s.2))
def m_enough_L1 (web_ : (List (P3 Int Str Int))) (table_ : (List (List Int))) (called_ : (List (Int × Int))) (j_ : Int) (i_ : Int) : W (Ctl (Ctl Bool (Unit)) (Unit)) :=
  W.bind (W.opt (atI called_ i_)) fun t27 => W.bind (W.ret t27) fun u => (fun hand_ k_ => W.bind (W.opt (atI web_ i_)) fun t31 => W.bind (W.opt (atI web_ j_)) fun t33 => W.bind (m_touches_meet t31 t33) fun t35 => W.bind (W.ite t35 (W.bind (W.opt (atI table_ j_)) fun t39 => W.bind (W.opt (atI t39 hand_)) fun t41 => W.ret (decide (k_ ≥ t41))) (W.ret false)) (fun t43 => W.ite t43 (W.ret (Ctl.rt (Ctl.rt false))) (W.ret (Ctl.nx ())))) u.1 u.2
def m_enough_L2 (web_ : (List (P3 Int Str Int))) (table_ : (List (List Int))) (called_ : (List (Int × Int))) (j_ : Int) : W (Ctl Bool (Unit)) :=
  W.guard (rngOk 0 j_) (W.bind (W.forC (rng 0 j_) () (fun a s => m_enough_L1 web_ table_ called_ j_ a)) fun c => W.after c (fun _ => W.ret (Ctl.nx ())))
def m_enough (web_ : (List (P3 Int Str Int))) (some_ : (List (P4 Int Int Int Int))) : W (Bool) :=
  W.bind (m_places_of web_) fun t1 => W.bind (W.ret t1) fun places_ => W.bind (compG some_ (fun note_ => W.ret true) (fun note_ => W.bind (m_ends_of places_ note_) fun t7 => W.ret t7)) fun t14 => W.bind (m_known_by web_ t14) fun t17 => W.bind (W.ret t17) fun table_ => W.bind (m_names web_) fun t21 => W.bind (W.ret t21) fun called_ => W.guard (rngOk 0 ((web_).length : Int)) (W.bind (W.forC (rng 0 ((web_).length : Int)) () (fun a s => m_enough_L2 web_ table_ called_ a)) fun c => W.after c (fun _ => W.ret true))
def m_law_spring_L1 (cell_ : Int) (figures_ : Int) (stir_ : Int) : W (Int × Int) :=
  W.guard (CPow (10 : Int) (18 : Int)) (W.bind (W.ite (decide ((if cell_ < 0 then -cell_ else cell_) ≥ ((10 : Int) ^ ((18 : Int)).toNat))) (W.guard (CPow (10 : Int) (60 : Int)) (W.guard (CMulW figures_ ((10 : Int) ^ ((60 : Int)).toNat)) (W.guard (CPow (10 : Int) (60 : Int)) (W.guard (0 < ((10 : Int) ^ ((60 : Int)).toNat)) (W.bind (W.ret ((figures_ * ((10 : Int) ^ ((60 : Int)).toNat)) + ((if cell_ < 0 then -cell_ else cell_) % ((10 : Int) ^ ((60 : Int)).toNat)))) fun figures_ => W.ret (figures_)))))) (W.ret (figures_))) (fun s => (fun figures_ => W.guard (CMulW stir_ (69069 : Int)) (W.bind (W.ret ((((stir_ * (69069 : Int)) + (cell_ % (2305843009213693921 : Int))) + (7 : Int)) % (2305843009213693951 : Int))) fun stir_ => W.ret ((figures_, stir_)))) s))
def m_law_spring (script_ : (List Int)) : W ((H3 Int Int Int)) :=
  W.bind (W.ret (0 : Int)) fun figures_ => W.bind (W.ret (88651 : Int)) fun stir_ => W.bind (W.forL (Z.cut script_ none (some (63 : Int))) (figures_, stir_) (fun a s => m_law_spring_L1 a s.1 s.2)) (fun s => (fun figures_ stir_ => W.ret (⟨figures_, stir_, (0 : Int)⟩ : (H3 Int Int Int))) s.1 s.2)
def m_law_draw (spring_ : (H3 Int Int Int)) (many_ : Int) : W (Int × (H3 Int Int Int)) :=
  W.ite (decide (spring_.a > (0 : Int))) (W.guard (0 < many_) (W.bind (W.ret (spring_.a % many_)) fun found_ => W.guard (CDivW spring_.a many_) (W.bind (W.ret ({ spring_ with a := (spring_.a / many_) } : (H3 Int Int Int))) fun spring_ => W.ret (found_, spring_)))) (W.bind (W.ret ({ spring_ with c := (spring_.c + (1 : Int)) } : (H3 Int Int Int))) fun spring_ => W.guard (CMulW spring_.b spring_.b) (W.bind (W.ret ((spring_.b * spring_.b) % (2305843009213693951 : Int))) fun stir_ => W.guard (CMulW (7919 : Int) spring_.c) (W.guard (CMulW ((7919 : Int) * spring_.c) spring_.b) (W.bind (W.ret ({ spring_ with b := (((stir_ + (((7919 : Int) * spring_.c) * spring_.b)) + (104729 : Int)) % (2305843009213693951 : Int)) } : (H3 Int Int Int))) fun spring_ => W.guard (CDivW spring_.b (65537 : Int)) (W.guard (0 < many_) (W.ret (((spring_.b / (65537 : Int)) % many_), spring_)))))))
def m_law_web_L1 (hands_ : Int) (first_ : Int) (room_ : Int) (base_ : Int) (kinds_ : (List Str)) (at_ : Int) (spring_ : (H3 Int Int Int)) (web_ : (List (P3 Int Str Int))) : W ((H3 Int Int Int) × (List (P3 Int Str Int))) :=
  W.bind2 (m_law_draw spring_ hands_) fun t59 spring_ => W.bind (W.ret ((first_ + t59) % (8 : Int))) fun hand_ => W.bind2 (m_law_draw spring_ ((kinds_).length : Int)) fun t63 spring_ => W.bind (W.opt (atI kinds_ t63)) fun t67 => W.bind (W.ret t67) fun kind_ => W.bind2 (m_law_draw spring_ room_) fun t69 spring_ => W.bind (apd web_ (⟨hand_, kind_, ((base_ + t69) % (20 : Int))⟩ : (P3 Int Str Int))) fun web_ => W.ret ((spring_, web_))
def m_law_web (spring_ : (H3 Int Int Int)) (most_ : Int) : W ((List (P3 Int Str Int)) × (H3 Int Int Int)) :=
  W.bind2 (m_law_draw spring_ (32 : Int)) fun t1 spring_ => W.bind (W.ret t1) fun shape_ => W.bind (W.opt (atI ([(31 : Int), (101 : Int), (most_ + (1 : Int))] : (List Int)) ((if (decide ((shape_ % (8 : Int)) = (7 : Int))) then (1 : Int) else 0) + (if (decide (shape_ = (31 : Int))) then (1 : Int) else 0)))) fun t9 => W.bind2 (m_law_draw spring_ t9) fun t11 spring_ => W.bind (W.ret t11) fun size_ => W.bind2 (m_law_draw spring_ (8 : Int)) fun t15 spring_ => W.bind (W.ret ((1 : Int) + t15)) fun hands_ => W.bind2 (m_law_draw spring_ (8 : Int)) fun t19 spring_ => W.bind (W.ret t19) fun first_ => W.bind2 (m_law_draw spring_ (5 : Int)) fun t27 spring_ => W.bind (W.opt (atI ([(1 : Int), (2 : Int), (3 : Int), (5 : Int), (20 : Int)] : (List Int)) t27)) fun t31 => W.bind (W.ret t31) fun room_ => W.bind2 (m_law_draw spring_ (20 : Int)) fun t33 spring_ => W.bind (W.ret t33) fun base_ => W.bind (W.ret ([("load" : Str), ("store" : Str), ("swap" : Str)] : (List Str))) fun kinds_ => W.bind2 (m_law_draw spring_ (3 : Int)) fun t43 spring_ => W.bind (W.ite (decide (t43 = (1 : Int))) (W.bind (W.ret ([("load" : Str), ("load" : Str), ("load" : Str), ("load" : Str), ("store" : Str), ("swap" : Str)] : (List Str))) fun kinds_ => W.ret (kinds_)) (W.ret (kinds_))) (fun s => (fun kinds_ => W.bind (W.ret ([] : (List (P3 Int Str Int)))) fun web_ => W.guard (rngOk 0 size_) (W.bind (W.forL (rng 0 size_) (spring_, web_) (fun a s => m_law_web_L1 hands_ first_ room_ base_ kinds_ a s.1 s.2)) (fun s => (fun spring_ web_ => W.ret (web_, spring_)) s.1 s.2))) s)
def m_law_meets (one_ : (P3 Int Str Int)) (other_ : (P3 Int Str Int)) : W (Bool) :=
  W.ite ((decide (one_.a = other_.a)) || (!decide (one_.c = other_.c))) (W.ret false) (W.ret ((!decide (one_.b = ("load" : Str))) || (!decide (other_.b = ("load" : Str)))))
def m_law_step (one_ : (P3 Int Str Int)) (other_ : (P3 Int Str Int)) : W (Bool) :=
  W.bind (W.ite (decide (one_.a = other_.a)) (W.ret true) (W.bind (m_law_meets one_ other_) fun t3 => W.ret t3)) (fun t7 => W.ret t7)
def m_law_free_order_L1 (web_ : (List (P3 Int Str Int))) (i_ : Int) (j_ : Int) (waits_ : (List Int)) (free_ : (List Int)) : W ((List Int) × (List Int)) :=
  W.bind (W.opt (atI web_ i_)) fun t47 => W.bind (W.opt (atI web_ j_)) fun t49 => W.bind (m_law_step t47 t49) fun t51 => W.bind (W.ite t51 (W.bind (W.opt (atI waits_ j_)) fun t55 => W.bind (sti waits_ j_ (t55 - (1 : Int))) fun waits_ => W.bind (W.opt (atI waits_ j_)) fun t57 => W.bind (W.ite (decide (t57 = (0 : Int))) (W.bind (apd free_ j_) fun free_ => W.ret (free_)) (W.ret (free_))) (fun s => (fun free_ => W.ret ((waits_, free_))) s)) (W.ret ((waits_, free_)))) (fun s => (fun waits_ free_ => W.ret ((waits_, free_))) s.1 s.2)
def m_law_free_order_L2 (web_ : (List (P3 Int Str Int))) (again_ : Int) (spring_ : (H3 Int Int Int)) (waits_ : (List Int)) (free_ : (List Int)) (order_ : (List Int)) : W ((H3 Int Int Int) × (List Int) × (List Int) × (List Int)) :=
  W.bind2 (m_law_draw spring_ ((free_).length : Int)) fun t40 spring_ => W.bind (popI free_ t40) fun q => (fun t44 free_ => W.bind (W.ret t44) fun i_ => W.bind (apd order_ i_) fun order_ => W.guard (rngOk (i_ + (1 : Int)) ((web_).length : Int)) (W.bind (W.forL (rng (i_ + (1 : Int)) ((web_).length : Int)) (waits_, free_) (fun a s => m_law_free_order_L1 web_ i_ a s.1 s.2)) (fun s => (fun waits_ free_ => W.ret ((spring_, waits_, free_, order_))) s.1 s.2))) q.1 q.2
def m_law_free_order (spring_ : (H3 Int Int Int)) (web_ : (List (P3 Int Str Int))) : W ((List Int) × (H3 Int Int Int)) :=
  W.guard (rngOk 0 ((web_).length : Int)) (W.bind (compG (rng 0 ((web_).length : Int)) (fun j_ => W.ret true) (fun j_ => W.guard (rngOk 0 j_) (W.bind (compG (rng 0 j_) (fun i_ => W.bind (W.opt (atI web_ i_)) fun t5 => W.bind (W.opt (atI web_ j_)) fun t7 => W.bind (m_law_step t5 t7) fun t9 => W.ret t9) (fun i_ => W.ret i_)) fun t16 => W.ret ((t16).length : Int)))) fun t22 => W.bind (W.ret t22) fun waits_ => W.guard (rngOk 0 ((web_).length : Int)) (W.bind (compG (rng 0 ((web_).length : Int)) (fun j_ => W.bind (W.opt (atI waits_ j_)) fun t27 => W.ret (decide (t27 = (0 : Int)))) (fun j_ => W.ret j_)) fun t32 => W.bind (W.ret t32) fun free_ => W.bind (W.ret ([] : (List Int))) fun order_ => W.guard (rngOk 0 ((web_).length : Int)) (W.bind (W.forL (rng 0 ((web_).length : Int)) (spring_, waits_, free_, order_) (fun a s => m_law_free_order_L2 web_ a s.1 s.2.1 s.2.2.1 s.2.2.2)) (fun s => (fun spring_ waits_ free_ order_ => W.ret (order_, spring_)) s.1 s.2.1 s.2.2.1 s.2.2.2))))
def m_law_whole (found_ : Int) : W (Bool) :=
  W.ret (true && (!false))
def m_law_rows_L1 (row_ : (P4 Int Int Int Int)) : W (Ctl Bool (Unit)) :=
  W.bind (W.ite (!true) (W.ret true) (W.bind (compG ([row_.a, row_.b, row_.c, row_.d] : (List Int)) (fun number_ => W.ret true) (fun number_ => W.bind (m_law_whole number_) fun t4 => W.ret t4)) fun t11 => W.ret (!((t11).all id)))) (fun t14 => W.ite t14 (W.ret (Ctl.rt false)) (W.ret (Ctl.nx ())))
def m_law_rows (found_ : (List (P4 Int Int Int Int))) (due_ : (List (P4 Int Int Int Int))) : W (Bool) :=
  W.ite ((!true) || (!decide (((found_).length : Int) = ((due_).length : Int)))) (W.ret false) (W.bind (W.forC found_ () (fun a s => m_law_rows_L1 a)) fun c => W.after c (fun _ => W.guard (okD found_ ∧ okD due_) (W.ret (eqD found_ due_))))
def m_law_parts_L1 (many_ : (List Int)) (hand_ : Int) (k_ : Int) (other_ : Int) (m_ : Int) (late_ : (List (P4 Int Int Int Int))) : W ((List (P4 Int Int Int Int))) :=
  W.bind (W.opt (atI many_ hand_)) fun t43 => W.bind (W.ite (decide (k_ ≥ t43)) (W.bind (W.opt (atI many_ other_)) fun t45 => W.ret (decide (m_ ≥ t45))) (W.ret false)) (fun t47 => W.bind (W.ite t47 (W.bind (W.opt (atI many_ hand_)) fun t51 => W.bind (W.opt (atI many_ other_)) fun t53 => W.bind (apd late_ (⟨hand_, (k_ - t51), other_, (m_ - t53)⟩ : (P4 Int Int Int Int))) fun late_ => W.ret (late_)) (W.ret (late_))) (fun s => (fun late_ => W.ret (late_)) s))
def m_law_parts (web_ : (List (P3 Int Str Int))) (told_ : (List (P4 Int Int Int Int))) (cut_ : Int) : W ((List (List (P4 Int Int Int Int)))) :=
  W.guard (rngOk 0 (8 : Int)) (W.bind (compG (rng 0 (8 : Int)) (fun hand_ => W.ret true) (fun hand_ => W.bind (compG (Z.cut web_ none (some cut_)) (fun there_ => W.ret (decide (there_.a = hand_))) (fun there_ => W.ret (1 : Int))) fun t13 => W.ret ((t13).length : Int))) fun t19 => W.bind (W.ret t19) fun many_ => W.bind (compG told_ (fun note_ => W.bind (W.opt (atI many_ note_.c)) fun t28 => W.ret (decide (note_.d < t28))) (fun note_ => W.ret note_)) fun t33 => W.bind (W.ret t33) fun early_ => W.bind (W.ret ([] : (List (P4 Int Int Int Int)))) fun late_ => W.bind (W.forL told_ late_ (fun a s => m_law_parts_L1 many_ a.a a.b a.c a.d s)) (fun s => (fun late_ => W.ret ([early_, late_] : (List (List (P4 Int Int Int Int))))) s))
def m_law_L1 (web_ : (List (P3 Int Str Int))) (told_ : (List (P4 Int Int Int Int))) (again_ : Int) (spring_ : (H3 Int Int Int)) : W (Ctl Bool ((H3 Int Int Int))) :=
  W.bind2 (m_law_free_order spring_ web_) fun t32 spring_ => W.bind (compG t32 (fun place_ => W.ret true) (fun place_ => W.bind (W.opt (atI web_ place_)) fun t38 => W.ret t38)) fun t43 => W.bind (W.ret t43) fun turned_ => W.bind (m_notes turned_) fun t52 => W.bind (m_law_rows t52 told_) fun t56 => W.bind (W.ite (!t56) (W.ret true) (W.bind (m_enough turned_ told_) fun t68 => W.ret (!decide (t68 = true)))) (fun t72 => W.ite t72 (W.ret (Ctl.rt false)) (W.bind2 (m_law_draw spring_ (((web_).length : Int) + (1 : Int))) fun t76 spring_ => W.bind (W.ret t76) fun cut_ => W.bind (m_law_parts web_ told_ cut_) fun t80 => W.bind (W.opt (two t80)) fun u => (fun early_ late_ => W.bind (m_notes (Z.cut web_ none (some cut_))) fun t88 => W.bind (m_law_rows t88 early_) fun t92 => W.bind (W.ite (!t92) (W.ret true) (W.bind (m_notes (Z.cut web_ (some cut_) none)) fun t100 => W.bind (m_law_rows t100 late_) fun t104 => W.ret (!t104))) (fun t108 => W.ite t108 (W.ret (Ctl.rt false)) (W.ret (Ctl.nx spring_)))) u.1 u.2))
def m_law (script_ : (List Int)) : W (Bool) :=
  W.bind (m_law_spring script_) fun t1 => W.bind (W.ret t1) fun spring_ => W.bind2 (m_law_web spring_ (300 : Int)) fun t5 spring_ => W.bind (W.ret t5) fun web_ => W.bind (W.ret web_) fun handed_ => W.bind (m_notes handed_) fun t15 => W.bind (W.ret t15) fun told_ => W.guard ((told_).length < 4000) (W.bind (m_law_rows told_ (srtK (ddK told_))) fun t23 => W.bind (W.ite (!t23) (W.ret true) (W.guard (okD handed_ ∧ okD web_) (W.ret (!eqD handed_ web_)))) (fun t27 => W.ite t27 (W.ret false) (W.guard (rngOk 0 ((1 : Int) + (if (3 : Int) < ((script_).length : Int) then (3 : Int) else ((script_).length : Int)))) (W.bind (W.forC (rng 0 ((1 : Int) + (if (3 : Int) < ((script_).length : Int) then (3 : Int) else ((script_).length : Int)))) spring_ (fun a s => m_law_L1 web_ told_ a s)) fun c => W.after c (fun s => (fun spring_ => W.ret true) s)))))
end M

/-! # what meets -/
namespace M
open PySem L2 Z
def meetS (s t : P3 Int Str Int) : Bool := if (decide (s.a = t.a) || !decide (s.c = t.c)) = true then false else (!decide (s.b = ("load" : Str)) || !decide (t.b = ("load" : Str)))
theorem meets_wp {s t : P3 Int Str Int} {Φ : Bool → Prop} (k : Φ (meetS s t)) : (m_touches_meet s t).run Φ := by
  unfold m_touches_meet
  simp only [run_bind, run_rt, run_if]
  unfold meetS at k
  generalize decide (s.a = t.a) = p at k ⊢
  generalize decide (s.c = t.c) = q at k ⊢
  generalize decide (s.b = ("load" : Str)) = r at k ⊢
  generalize decide (t.b = ("load" : Str)) = u at k ⊢
  cases p <;> cases q <;> cases r <;> cases u <;> simpa using k
theorem law_meets_wp {s t : P3 Int Str Int} {Φ : Bool → Prop} (k : Φ (meetS s t)) : (m_law_meets s t).run Φ := meets_wp k
end M

/-! # the law's drawing: spring, draw, web -/
namespace M
open PySem L2 Z
abbrev Spr := H3 Int Int Int
def SpOk (B : Nat) (s : Spr) : Prop := 0 ≤ s.b ∧ s.b < 2305843009213693951 ∧ 0 ≤ s.c ∧ s.c ≤ B
theorem SpOk.mo {B C : Nat} {s : Spr} (h : SpOk B s) (hc : B ≤ C) : SpOk C s := ⟨h.1, h.2.1, h.2.2.1, by have := h.2.2.2; omega⟩
theorem nat_lt_pow {x : Int} {n : Nat} (h0 : 0 ≤ x) (h : x < (2 ^ n : Nat)) : x.natAbs < 2 ^ n := by omega
theorem draw_wp {B : Nat} {s : Spr} {many : Int} {Φ : Int × Spr → Prop} (hs : SpOk B s) (hB : B < 2 ^ 40) (h0 : 0 < many) (hm : many < 2 ^ 100)
    (k : ∀ x s', 0 ≤ x → x < many → SpOk (B + 1) s' → Φ (x, s')) : (m_law_draw s many).run Φ := by
  obtain ⟨f, t, n⟩ := s
  obtain ⟨ht0, ht, hn0, hn⟩ := hs
  dsimp only at ht0 ht hn0 hn
  have hmn : many.natAbs < 2 ^ 100 := by omega
  have cd : ∀ x : Int, CDivW x many := fun x => wide_div h0 hmn (by decide) (by decide)
  unfold m_law_draw
  simp only [run_bind, run_ite, run_guard, run_rt, decide_eq_true_eq, decide_eq_false_iff_not]
  refine ⟨fun hf => ⟨h0, cd _, ?_⟩, fun hf => ⟨?_, ?_, ?_, ?_, h0, ?_⟩⟩
  · exact k _ _ (Int.emod_nonneg _ (by omega)) (Int.emod_lt_of_pos _ h0) ⟨ht0, ht, hn0, by show n ≤ ((B + 1 : Nat) : Int); omega⟩
  · exact wide_mul (a := 61) (b := 61) (by omega) (by omega) (by decide) (by decide) (by decide)
  · exact wide_mul (a := 13) (b := 64) (by decide) (by omega) (by decide) (by decide) (by decide)
  · exact wide_mul (a := 77) (b := 61) (by omega) (by omega) (by decide) (by decide) (by decide)
  · exact wide_div (b := 17) (by decide) (by decide) (by decide) (by decide)
  · have p0 : (0 : Int) < 2305843009213693951 := by decide
    exact k _ _ (Int.emod_nonneg _ (by omega)) (Int.emod_lt_of_pos _ h0) ⟨Int.emod_nonneg _ (by omega), Int.emod_lt_of_pos _ p0, by show 0 ≤ n + 1; omega, by show n + 1 ≤ ((B + 1 : Nat) : Int); omega⟩
theorem ten60 : ((10 : Int) ^ ((60 : Int)).toNat) = 1000000000000000000000000000000000000000000000000000000000000 := by decide +kernel
theorem cpow60 : CPow (10 : Int) (60 : Int) := by unfold CPow; decide
theorem cpow18 : CPow (10 : Int) (18 : Int) := by unfold CPow; decide
theorem spring_wp {ns : List Int} {Φ : Spr → Prop} (hl : ns.length ≤ 63) (k : ∀ s, SpOk 0 s → Φ s) : (m_law_spring ns).run Φ := by
  unfold m_law_spring
  simp only [run_bind, run_rt]
  rw [cut_to (by decide)]
  refine forL_wp (fun i s => 0 ≤ s.1 ∧ s.1 < ((2 ^ (200 * i) : Nat) : Int) ∧ 0 ≤ s.2 ∧ s.2 < 2305843009213693951) ⟨by decide, by decide, by decide, by decide⟩ ?_ ?_
  · rintro i x ⟨f, t⟩ hx ⟨h1, h2, h3, h4⟩
    have hi : i < 63 := by
      have := (List.getElem?_eq_some_iff.mp hx).1
      rw [List.length_take] at this
      omega
    have p0 : (0 : Int) < 2305843009213693951 := by decide
    have hk : (2 : Nat) ^ (200 * (i + 1)) = 2 ^ (200 * i) * 2 ^ 200 := by rw [← Nat.pow_add]; congr 1
    have hbig : (2 : Nat) ^ (200 * i) ≤ 2 ^ 13000 := Nat.pow_le_pow_right (by decide) (by omega)
    have mono : (2 : Nat) ^ (200 * i) ≤ 2 ^ (200 * (i + 1)) := Nat.pow_le_pow_right (by decide) (by omega)
    dsimp only at h1 h2 h3 h4
    unfold m_law_spring_L1
    simp only [run_bind, run_ite, run_guard, run_rt, ten60]
    have ht : CMulW t 69069 := wide_mul (a := 61) (b := 17) (by omega) (by decide) (by decide) (by decide) (by decide)
    refine ⟨cpow18, fun _ => ⟨cpow60, ?_, cpow60, by decide, ht, ?_⟩, fun _ => ⟨ht, ?_⟩⟩
    · have hf : f.natAbs < 2 ^ 13000 := by omega
      exact wide_mul (a := 13000) (b := 200) hf (by decide +kernel) (by decide) (by decide) (by decide)
    · generalize hy : (if x < 0 then -x else x) = y
      have q0 : (0 : Int) < 1000000000000000000000000000000000000000000000000000000000000 := by decide
      have r1 := Int.emod_nonneg y (show (1000000000000000000000000000000000000000000000000000000000000 : Int) ≠ 0 by decide)
      have r2 := Int.emod_lt_of_pos y q0
      refine ⟨by omega, ?_, Int.emod_nonneg _ (by omega), Int.emod_lt_of_pos _ p0⟩
      rw [hk]
      have c : ((2 ^ 200 : Nat) : Int) = 1606938044258990275541962092341162602522202993782792835301376 := by decide +kernel
      generalize hA : (2 : Nat) ^ (200 * i) = A at h2
      rw [Int.natCast_mul, c]
      have : (f + 1) * 1606938044258990275541962092341162602522202993782792835301376 ≤ (A : Int) * 1606938044258990275541962092341162602522202993782792835301376 := Int.mul_le_mul_of_nonneg_right (by omega) (by decide)
      omega
    · exact ⟨h1, by omega, Int.emod_nonneg _ (by omega), Int.emod_lt_of_pos _ p0⟩
  · rintro ⟨f, t⟩ ⟨h1, h2, h3, h4⟩
    exact k _ ⟨h3, h4, Int.le_refl _, Int.le_refl _⟩
/-- a web that may be handed in -/
structure ToOk (t : P3 Int Str Int) : Prop where
  h0 : 0 ≤ t.a
  h8 : t.a < 8
  kd : t.b = "load" ∨ t.b = "store" ∨ t.b = "swap"
  c0 : 0 ≤ t.c
  c20 : t.c < 20
def WebOk (web : List (P3 Int Str Int)) : Prop := (∀ t ∈ web, ToOk t) ∧ web.length ≤ 300
theorem web_wp {B : Nat} {s : Spr} {most : Int} {Φ : List (P3 Int Str Int) × Spr → Prop} (hs : SpOk B s) (hB : B < 2 ^ 39) (h0 : 0 ≤ most) (hm : most ≤ 300)
    (k : ∀ web s', WebOk web → (web.length : Int) ≤ max 100 most → SpOk (B + 1000) s' → Φ (web, s')) : (m_law_web s most).run Φ := by
  unfold m_law_web
  simp only [run_bind, run_bind2, run_rt, run_guard, run_opt]
  refine draw_wp hs (by omega) (by decide) (by decide) fun shape s1 a1 a2 hs1 => ?_
  dsimp only
  obtain ⟨i, hi, hsz⟩ : ∃ i : Int, ((if decide (shape % 8 = 7) then (1 : Int) else 0) + if decide (shape = 31) then (1 : Int) else 0) = i ∧ 0 ≤ i ∧ i < 3 := by
    refine ⟨_, rfl, ?_⟩
    by_cases c1 : shape % 8 = 7 <;> by_cases c2 : shape = 31 <;> simp [c1, c2]
  rw [hi]
  obtain ⟨top, htop, etop⟩ := atI_some (xs := [(31 : Int), 101, most + 1]) hsz.1 hsz.2
  have ht : 0 < top ∧ top ≤ max 101 (most + 1) := by
    simp only [List.mem_cons, List.not_mem_nil, or_false] at htop
    omega
  refine ⟨top, etop, draw_wp hs1 (by omega) ht.1 (by omega) fun size s2 b1 b2 hs2 => ?_⟩
  refine draw_wp hs2 (by omega) (by decide) (by decide) fun hands s3 c1 c2 hs3 => ?_
  refine draw_wp hs3 (by omega) (by decide) (by decide) fun first s4 d1 d2 hs4 => ?_
  refine draw_wp hs4 (by omega) (by decide) (by decide) fun r s5 e1 e2 hs5 => ?_
  obtain ⟨room, hroom, eroom⟩ := atI_some (xs := [(1 : Int), 2, 3, 5, 20]) e1 (by simpa using e2)
  have hr : 0 < room ∧ room ≤ 20 := by
    simp only [List.mem_cons, List.not_mem_nil, or_false] at hroom
    omega
  refine ⟨room, eroom, ?_⟩
  refine draw_wp hs5 (by omega) (by decide) (by decide) fun base s6 f1 f2 hs6 => ?_
  refine draw_wp hs6 (by omega) (by decide) (by decide) fun pick s7 g1 g2 hs7 => ?_
  dsimp only at a1 a2 b1 b2 c1 c2 ⊢
  have rest : ∀ kinds : List Str, (∀ x ∈ kinds, x = "load" ∨ x = "store" ∨ x = "swap") → 0 < kinds.length → kinds.length ≤ 6 → rngOk 0 size ∧
      (W.forL (rng 0 size) (s7, ([] : List (P3 Int Str Int))) fun a s => m_law_web_L1 (1 + hands) first room base kinds a s.1 s.2).run fun a => Φ (a.2, a.1) := by
    intro kinds hk hk0 hk6
    refine ⟨⟨by decide, by decide, by omega, by omega⟩, ?_⟩
    have hlen : ((rng 0 size).length : Int) = size := by rw [rng_len]; omega
    refine forL_wp (fun i s => SpOk (B + 7 + 3 * i) s.1 ∧ (∀ t ∈ s.2, ToOk t) ∧ s.2.length = i) ⟨hs7, by simp, rfl⟩ ?_ ?_
    · rintro i x ⟨sp, web⟩ hx ⟨q1, q2, q3⟩
      have hi : i < (rng 0 size).length := (List.getElem?_eq_some_iff.mp hx).1
      have hi3 : i < 300 := by omega
      dsimp only at q1 q2 q3
      unfold m_law_web_L1
      simp only [run_bind, run_bind2, run_rt, run_guard, run_opt]
      refine draw_wp q1 (by omega) (by omega) (by omega) fun h s1 u1 u2 q1 => ?_
      refine draw_wp q1 (by omega) (by omega) (by omega) fun kd s2 v1 v2 q1 => ?_
      dsimp only at v1 v2 ⊢
      obtain ⟨kind, hkind, ekind⟩ := atI_some (xs := kinds) v1 v2
      refine ⟨kind, ekind, ?_⟩
      refine draw_wp q1 (by omega) hr.1 (by omega) fun c s3 w1 w2 q1 => ?_
      refine apd_wp (by omega) ⟨q1.mo (by omega), ?_, ?_⟩
      · intro t ht
        rcases List.mem_append.mp ht with ht | ht
        · exact q2 t ht
        · rw [List.mem_singleton.mp ht]
          exact ⟨Int.emod_nonneg _ (by decide), Int.emod_lt_of_pos _ (by decide), hk _ hkind, Int.emod_nonneg _ (by decide), Int.emod_lt_of_pos _ (by decide)⟩
      · simp [q3]
    · rintro ⟨sp, web⟩ ⟨q1, q2, q3⟩
      dsimp only at q1 q2 q3
      exact k web sp ⟨q2, by omega⟩ (by omega) (q1.mo (by omega))
  simp only [run_ite, run_rt, run_bind]
  refine ⟨fun _ => rest _ (by simp) (by simp) (by simp), fun _ => rest _ (by simp) (by simp) (by simp)⟩
theorem str_lay (s : String) (h : PyData.strOk (s : Str) = true) : Lay.ok (s : Str) := h
theorem to_lay {t : P3 Int Str Int} (h : ToOk t) : Lay.ok t := by
  refine ⟨trivial, ?_, trivial⟩
  rcases h.kd with e | e | e <;> rw [e] <;> exact str_lay _ (by decide +kernel)
end M

/-! # general ways -/
namespace M
open PySem L2 Z
theorem rng_mem {a b x : Int} : x ∈ rng a b ↔ a ≤ x ∧ x < b := by
  unfold rng
  rw [List.mem_map]
  constructor
  · rintro ⟨k, hk, rfl⟩
    rw [List.mem_range] at hk
    omega
  · rintro ⟨h1, h2⟩
    exact ⟨(x - a).toNat, by rw [List.mem_range]; omega, by omega⟩
theorem rng_pw (a b : Int) : (rng a b).Pairwise (· < ·) := by
  unfold rng
  rw [List.pairwise_map]
  exact List.pairwise_lt_range.imp fun h => by omega
theorem take_snocN {α : Type} {xs : List α} {i : Nat} {x : α} (h : xs[i]? = some x) : xs.take (i + 1) = xs.take i ++ [x] := by
  rw [List.take_add_one, h]
  rfl
theorem at_head {α : Type} {x : α} {l : List α} : atI (x :: l) (0 : Int) = some x := atI_nat (j := 0) rfl
theorem at_last {α : Type} {x : α} {l : List α} : atI (l ++ [x]) (-(1 : Int)) = some x := atI_last l x
/-- a loop that is left at last -/
theorem while_wp {S ρ : Type} (Inv : S → Prop) (μ : S → Nat) {s : S} {f : S → W (Ctl ρ S)} {Φ : Ctl ρ S → Prop} (h0 : Inv s)
    (step : ∀ s, Inv s → (f s).run (CtlP (fun s' => Inv s' ∧ μ s' < μ s) (fun s' => Φ (.nx s')) (fun r => Φ (.rt r)))) : (W.whileL s f).run Φ := by
  have key : ∀ m s, Inv s → μ s < m → (W.whileN m s f).run Φ := by
    intro m
    induction m with
    | zero => intro s _ h; omega
    | succ m ih =>
      intro s hs hm
      show (W.bind (f s) _).run Φ
      rw [run_bind]
      refine run_mono (step s hs) fun c hc => ?_
      cases c with
      | nx s' => exact ih s' hc.1 (by have := hc.2; omega)
      | bk s' => exact hc
      | rt r => exact hc
  exact ⟨μ s + 1, key _ s h0 (Nat.lt_succ_self _)⟩
/-- a loop that is left where a test holds -/
theorem forC_any {α ρ : Type} {xs : List α} {f : α → Unit → W (Ctl ρ Unit)} (t : α → Bool) (r : ρ) {Φ : Ctl ρ Unit → Prop} (hf : ∀ x ∈ xs, ∀ Ψ : Ctl ρ Unit → Prop, Ψ (if t x = true then .rt r else .nx ()) → (f x ()).run Ψ)
    (k : Φ (if xs.any t = true then .rt r else .nx ())) : (W.forC xs () f).run Φ := by
  induction xs with
  | nil => exact k
  | cons x xs ih =>
    show (W.bind (f x ()) _).run Φ
    rw [run_bind]
    refine hf x List.mem_cons_self _ ?_
    rw [List.any_cons] at k
    by_cases c : t x = true
    · rw [if_pos c]
      rw [c, Bool.true_or, if_pos rfl] at k
      exact k
    · rw [if_neg c]
      rw [Bool.not_eq_true] at c
      rw [c, Bool.false_or] at k
      exact ih (fun y hy => hf y (List.mem_cons_of_mem _ hy)) k
theorem popI_wp {α : Type} {xs : List α} {i : Nat} {Φ : α × List α → Prop} (h : i < xs.length) (hl : xs.length ≤ 100000) (k : Φ (xs[i], xs.eraseIdx i)) : (popI xs (i : Int)).run Φ :=
  ⟨⟨by omega, by omega⟩, i, by rw [ixN_nat' (by omega) (by omega), Int.toNat_natCast], xs[i], List.getElem?_eq_getElem h, k⟩
theorem mnD_cases (xs : List Int) (d : Int) : (xs = [] ∧ mnD xs d = d) ∨ (mnD xs d ∈ xs ∧ ∀ y ∈ xs, mnD xs d ≤ y) := by
  cases xs with
  | nil => exact .inl ⟨rfl, rfl⟩
  | cons x xs => exact .inr (mnF xs x)
theorem mxD_cases (xs : List Int) (d : Int) : (xs = [] ∧ mxD xs d = d) ∨ (mxD xs d ∈ xs ∧ ∀ y ∈ xs, y ≤ mxD xs d) := by
  cases xs with
  | nil => exact .inl ⟨rfl, rfl⟩
  | cons x xs => exact .inr (mxF xs x)
/-- a comprehension that carries a state -/
theorem compSG_wp {α β S : Type} {xs : List α} {s : S} {f : α → S → W (Option β × S)} (Inv : Nat → S → List β → Prop) {Φ : List β × S → Prop} (hl : xs.length ≤ sizeLine) (h0 : Inv 0 s [])
    (step : ∀ i x s acc, xs[i]? = some x → Inv i s acc → (f x s).run fun r => match r.1 with | none => Inv (i + 1) r.2 acc | some y => Inv (i + 1) r.2 (acc ++ [y])) (k : ∀ s acc, Inv xs.length s acc → Φ (acc, s)) : (compSG xs s f).run Φ := by
  refine ⟨hl, ?_⟩
  have key : ∀ (ys : List α) (i : Nat) (s : S) (acc : List β), (∀ j x, ys[j]? = some x → xs[i + j]? = some x) → i + ys.length = xs.length → Inv i s acc → (compS ys acc s f).run Φ := by
    intro ys
    induction ys with
    | nil =>
      intro i s acc _ e h
      exact k s acc (by rw [← e]; exact h)
    | cons y ys ih =>
      intro i s acc hx e h
      show (W.bind (f y s) _).run Φ
      rw [run_bind]
      refine run_mono (step i y s acc (hx 0 y rfl) h) fun r hr => ?_
      obtain ⟨o, s'⟩ := r
      have hx' : ∀ j x, ys[j]? = some x → xs[i + 1 + j]? = some x := fun j x q => by rw [Nat.add_right_comm]; exact hx (j + 1) x q
      have e' : i + 1 + ys.length = xs.length := by rw [← e]; simp; omega
      cases o with
      | none => exact ih (i + 1) s' acc hx' e' hr
      | some z => exact ih (i + 1) s' (acc ++ [z]) hx' e' hr
  exact key xs 0 s [] (fun j x q => by rw [Nat.zero_add]; exact q) (by omega) h0
end M

/-! # webs: steps by places -/
namespace M
open PySem L2 Z
abbrev Tch := P3 Int Str Int
def gW (web : List Tch) (i : Nat) : Tch := web.getD i ⟨0, "", 0⟩
def stS (s t : Tch) : Bool := decide (s.a = t.a) || meetS s t
def sW (web : List Tch) (i j : Nat) : Bool := stS (gW web i) (gW web j)
section
variable {web : List Tch} {x y i j : Nat}
theorem gW_get (h : x < web.length) : web[x]? = some (gW web x) := by
  unfold gW
  rw [List.getD_eq_getElem?_getD, List.getElem?_eq_getElem h]
  rfl
theorem gW_at (h : x < web.length) : atI web (x : Int) = some (gW web x) := atI_nat (gW_get h)
theorem isok_small {a b : Nat} (h : b ≤ 100000) : rngOk (a : Int) (b : Int) ∨ 100000 < a := by
  by_cases c : a ≤ 100000
  · exact .inl ⟨by omega, by omega, by omega, by omega⟩
  · exact .inr (by omega)
end
end M

/-! # orders that keep what must come ahead -/
namespace M
open PySem L2 Z
def Topo (web : List Tch) (os : List Nat) : Prop := ∀ l1 x l2, os = l1 ++ x :: l2 → ∀ i, i < x → sW web i x = true → i ∈ l1
theorem lawstep_wp {s t : Tch} {Φ : Bool → Prop} (k : Φ (stS s t)) : (m_law_step s t).run Φ := by
  unfold m_law_step
  simp only [run_bind, run_if, run_rt]
  unfold stS at k
  by_cases c : s.a = t.a
  · rw [decide_eq_true c] at k ⊢
    exact k
  · rw [decide_eq_false c] at k ⊢
    exact law_meets_wp k
section
variable {web : List Tch} {os fs : List Nat} {i j n : Nat}
/-- how many a place still waits for -/
def wc (web : List Tch) (os : List Nat) (j : Nat) : Nat := ((List.range j).filter fun i => sW web i j && !decide (i ∈ os)).length
theorem wc_zero (h : wc web os j = 0) : ∀ i, i < j → sW web i j = true → i ∈ os := by
  intro i hi hs
  unfold wc at h
  rw [List.length_eq_zero_iff, List.filter_eq_nil_iff] at h
  have := h i (List.mem_range.mpr hi)
  rw [hs] at this
  simpa using this
theorem wc_of (h : ∀ i, i < j → sW web i j = true → i ∈ os) : wc web os j = 0 := by
  unfold wc
  rw [List.length_eq_zero_iff, List.filter_eq_nil_iff]
  intro i hi
  rw [List.mem_range] at hi
  cases hs : sW web i j with
  | false => simp
  | true => simp [h i hi hs]
theorem filter_one {α : Type} [DecidableEq α] {l : List α} {p : α → Bool} {a : α} (hn : l.Nodup) (ha : a ∈ l) (hp : p a = true) : (l.filter fun x => p x && !decide (x = a)).length + 1 = (l.filter p).length := by
  induction l with
  | nil => cases ha
  | cons b l ih =>
    obtain ⟨h1, h2⟩ := List.nodup_cons.mp hn
    by_cases c : b = a
    · subst c
      rw [List.filter_cons_of_neg (by simp), List.filter_cons_of_pos hp, List.length_cons]
      congr 2
      refine List.filter_congr fun x hx => ?_
      have : x ≠ b := fun e => h1 (e ▸ hx)
      simp [this]
    · have ha' : a ∈ l := by
        rcases List.mem_cons.mp ha with e | e
        · exact absurd e.symm c
        · exact e
      have := ih h2 ha'
      rw [List.filter_cons, List.filter_cons]
      cases q : p b with
      | true => simp [c]; omega
      | false => simp; omega
theorem wc_snoc (hi : i ∉ os) : wc web (os ++ [i]) j = if i < j ∧ sW web i j = true then wc web os j - 1 else wc web os j := by
  have e : wc web (os ++ [i]) j = ((List.range j).filter fun x => (sW web x j && !decide (x ∈ os)) && !decide (x = i)).length := by
    unfold wc
    congr 1
    refine List.filter_congr fun x _ => ?_
    rw [Bool.and_assoc]
    congr 1
    by_cases a : x ∈ os <;> by_cases b : x = i <;> simp [a, b]
  rw [e]
  split
  · rename_i h
    have := filter_one (p := fun x => sW web x j && !decide (x ∈ os)) List.nodup_range (List.mem_range.mpr h.1) (by simp [h.2, hi])
    unfold wc
    omega
  · rename_i h
    unfold wc
    congr 1
    refine List.filter_congr fun x hx => ?_
    rw [List.mem_range] at hx
    by_cases b : x = i
    · subst b
      have : sW web x j = false := by
        cases q : sW web x j with
        | false => rfl
        | true => exact absurd ⟨hx, q⟩ h
      simp [this]
    · simp [b]
theorem wc_pos (hi : i ∉ os) (hij : i < j) (hs : sW web i j = true) : 0 < wc web os j := by
  refine Nat.pos_of_ne_zero fun h => hi (wc_zero h i hij hs)
def casts (l : List Nat) : List Int := l.map fun x : Nat => (x : Int)
theorem all_len : ∀ n (os : List Nat), (∀ j, j < n → j ∈ os) → n ≤ os.length
  | 0, _, _ => Nat.zero_le _
  | n + 1, os, h => by
    have := all_len n (os.erase n) fun j hj => (List.mem_erase_of_ne (by omega)).mpr (h j (by omega))
    rw [List.length_erase_of_mem (h n (by omega))] at this
    have := List.length_pos_of_mem (h n (by omega))
    omega
theorem nodup_len : ∀ n (l : List Nat), l.Nodup → (∀ x ∈ l, x < n) → l.length ≤ n := by
  intro n
  induction n with
  | zero => intro l _ h; cases l with | nil => exact Nat.le_refl _ | cons a l => exact absurd (h a List.mem_cons_self) (by omega)
  | succ n ih =>
    intro l hn h
    have := ih (l.erase n) (hn.erase n) fun x hx => by
      have h1 := h x (List.mem_of_mem_erase hx)
      have h2 : x ≠ n := fun e => by subst e; exact (List.Nodup.not_mem_erase hn) hx
      omega
    by_cases c : n ∈ l
    · rw [List.length_erase_of_mem c] at this; omega
    · rw [List.erase_of_not_mem c] at this; omega
theorem erase_at : ∀ {l : List Nat}, l.Nodup → ∀ {p : Nat} (hp : p < l.length), l.erase l[p] = l.eraseIdx p
  | [], _, _, hp => by simp at hp
  | a :: l, hn, 0, _ => by simp
  | a :: l, hn, p + 1, hp => by
    obtain ⟨h1, h2⟩ := List.nodup_cons.mp hn
    have hp' : p < l.length := by simpa using hp
    have : a ≠ l[p] := fun e => h1 (e ▸ List.getElem_mem hp')
    rw [List.getElem_cons_succ, List.erase_cons_tail (by simpa using this), List.eraseIdx_cons_succ, erase_at h2 hp']
theorem map_eraseIdx {α β : Type} (f : α → β) : ∀ (l : List α) (p : Nat), (l.map f).eraseIdx p = (l.eraseIdx p).map f
  | [], _ => rfl
  | _ :: _, 0 => rfl
  | a :: l, p + 1 => by simp [map_eraseIdx f l p]
theorem casts_len (l : List Nat) : (casts l).length = l.length := by unfold casts; simp
def mapR (n : Nat) (f : Nat → Int) : List Int := (List.range n).map f
theorem mapR_len {f : Nat → Int} : (mapR n f).length = n := by unfold mapR; simp
theorem mapR_at {f : Nat → Int} (h : j < n) : atI (mapR n f) (j : Int) = some (f j) := by
  refine atI_nat ?_
  unfold mapR
  rw [List.getElem?_map, List.getElem?_range h]
  rfl
theorem mapR_set {f : Nat → Int} {v : Int} (h : i < n) : (mapR n f).set i v = mapR n fun j => if j = i then v else f j := by
  unfold mapR
  apply List.ext_getElem?
  intro m
  rw [List.getElem?_set]
  simp only [List.getElem?_map, List.length_map, List.length_range]
  by_cases c : i = m
  · subst c
    rw [if_pos rfl, if_pos h, List.getElem?_range h]
    simp
  · rw [if_neg c]
    by_cases d : m < n
    · rw [List.getElem?_range d]
      simp only [Option.map_some, Option.some.injEq]
      rw [if_neg (fun e => c e.symm)]
    · rw [List.getElem?_eq_none (by simp; omega)]
      rfl
theorem mapR_congr {f g : Nat → Int} (h : ∀ j, j < n → f j = g j) : mapR n f = mapR n g := by
  unfold mapR
  exact List.map_congr_left fun j hj => h j (List.mem_range.mp hj)
theorem rng_mapR : rng 0 (n : Int) = mapR n fun j => (j : Int) := by
  unfold rng mapR
  rw [Int.sub_zero, Int.toNat_natCast]
  refine List.map_congr_left fun j _ => by omega
theorem rng_casts : rng 0 (n : Int) = casts (List.range n) := rng_mapR
/-- the state between two turns -/
structure Fr (web : List Tch) (os fs : List Nat) : Prop where
  nd : os.Nodup
  lt : ∀ x ∈ os, x < web.length
  topo : Topo web os
  fnd : fs.Nodup
  free : ∀ j, j ∈ fs ↔ j < web.length ∧ j ∉ os ∧ wc web os j = 0
theorem Fr.some (h : Fr web os fs) (hl : os.length < web.length) : 0 < fs.length := by
  -- the first place that is not in the order
  have ex : ∃ j, j < web.length ∧ j ∉ os := by
    refine Classical.byContradiction fun q => ?_
    have := all_len web.length os fun x hx => Classical.byContradiction fun z => q ⟨x, hx, z⟩
    omega
  have least : ∀ m j, j ≤ m → j < web.length → j ∉ os → ∃ j, j < web.length ∧ j ∉ os ∧ ∀ i, i < j → i ∈ os := by
    intro m
    induction m with
    | zero =>
      intro j a b c
      exact ⟨j, b, c, fun i hi => by omega⟩
    | succ m ih =>
      intro j a b c
      by_cases z : ∃ i, i < j ∧ i ∉ os
      · obtain ⟨i, z1, z2⟩ := z
        exact ih i (by omega) (by omega) z2
      · exact ⟨j, b, c, fun i hi => Classical.byContradiction fun w => z ⟨i, hi, w⟩⟩
  obtain ⟨j, a, b⟩ := ex
  obtain ⟨j, a, b, c⟩ := least j j (Nat.le_refl _) a b
  exact List.length_pos_of_mem ((h.free j).mpr ⟨a, b, wc_of fun i hi _ => c i hi⟩)
theorem topo_snoc (h : Topo web os) (hi : ∀ x, x < i → sW web x i = true → x ∈ os) : Topo web (os ++ [i]) := by
  intro l1 x l2 e y hy hs
  rcases List.eq_nil_or_concat l2 with rfl | ⟨r, z, rfl⟩
  · have : os ++ [i] = l1 ++ [x] := e
    obtain ⟨e1, e2⟩ := List.append_inj' this rfl
    cases e2
    subst e1
    exact hi y hy hs
  · rw [List.concat_eq_append] at e
    have : os ++ [i] = (l1 ++ x :: r) ++ [z] := by rw [e]; simp
    obtain ⟨e1, e2⟩ := List.append_inj' this rfl
    exact h l1 x r e1 y hy hs
theorem free_wp {B : Nat} {s : Spr} {Φ : List Int × Spr → Prop} (hs : SpOk B s) (hB : B < 2 ^ 39) (hl : web.length ≤ 300)
    (k : ∀ os s', os.length = web.length → (∀ x ∈ os, x < web.length) → os.Nodup → Topo web os → SpOk (B + 300) s' → Φ (casts os, s')) : (m_law_free_order s web).run Φ := by
  unfold m_law_free_order
  simp only [run_guard, run_bind, run_rt]
  have rg : rngOk 0 (web.length : Int) := ⟨by decide, by decide, by omega, by omega⟩
  have rm : ∀ x ∈ rng 0 (web.length : Int), ∃ j : Nat, x = j ∧ j < web.length := fun x hx => by
    obtain ⟨h1, h2⟩ := rng_mem.mp hx
    exact ⟨x.toNat, by omega, by omega⟩
  refine ⟨rg, compG_wp (fun _ => true) (fun x => (wc web [] x.toNat : Int)) (small (by rw [rng_len]; omega)) (fun _ _ Ψ h => h) (fun x hx _ Ψ h => ?_) ?_⟩
  · obtain ⟨j, rfl, hj⟩ := rm x hx
    refine ⟨⟨by decide, by decide, by omega, by omega⟩, ?_⟩
    refine compG_wp (fun i => sW web i.toNat j) (fun i => i) (small (by rw [rng_len]; omega)) (fun y hy Ψ h => ?_) (fun _ _ _ Ψ h => h) ?_
    · obtain ⟨h1, h2⟩ := rng_mem.mp hy
      obtain ⟨i, rfl⟩ : ∃ i : Nat, y = i := ⟨y.toNat, by omega⟩
      simp only [run_bind, run_opt, gW_at (show i < web.length by omega), gW_at hj, Option.some.injEq, exists_eq_left']
      exact lawstep_wp h
    · rw [List.map_id']
      have e : ((rng 0 (j : Int)).filter fun i => sW web i.toNat j).length = wc web [] j := by
        unfold wc rng
        rw [List.filter_map, List.length_map, Int.sub_zero, Int.toNat_natCast]
        congr 1
        refine List.filter_congr fun x _ => ?_
        simp
      show Ψ (((rng 0 (j : Int)).filter fun i => sW web i.toNat j).length : Int)
      rw [e]
      simpa using h
  · have e1 : ((rng 0 (web.length : Int)).filter fun _ => true).map (fun x => (wc web [] x.toNat : Int)) = mapR web.length fun j => (wc web [] j : Int) := by
      rw [List.filter_eq_self.mpr fun _ _ => rfl, rng_mapR]
      unfold mapR
      rw [List.map_map]
      rfl
    rw [e1]
    refine ⟨rg, compG_wp (fun x => decide ((wc web [] x.toNat : Int) = 0)) (fun x => x) (small (by rw [rng_len]; omega)) (fun x hx Ψ h => ?_) (fun _ _ _ Ψ h => h) ?_⟩
    · obtain ⟨j, rfl, hj⟩ := rm x hx
      simp only [run_bind, run_opt, run_rt, mapR_at hj, Option.some.injEq, exists_eq_left']
      exact h
    · rw [List.map_id']
      have e2 : ((rng 0 (web.length : Int)).filter fun x => decide ((wc web [] x.toNat : Int) = 0)) = casts ((List.range web.length).filter fun j => decide (wc web [] j = 0)) := by
        rw [rng_casts]
        unfold casts
        rw [List.filter_map]
        congr 1
        refine List.filter_congr fun x _ => ?_
        simp
      rw [e2]
      refine ⟨rg, ?_⟩
      refine forL_wp (fun t q => SpOk (B + t) q.1 ∧ ∃ os fs : List Nat, Fr web os fs ∧ os.length = t ∧ q.2.1 = mapR web.length (fun j => (wc web os j : Int)) ∧ q.2.2.1 = casts fs ∧ q.2.2.2 = casts os) ⟨hs, [], _, ?_, rfl, rfl, rfl, rfl⟩ ?_ ?_
      · refine ⟨List.nodup_nil, by simp, fun l1 x l2 e => by simp at e, List.nodup_range.filter _, fun j => ?_⟩
        rw [List.mem_filter, List.mem_range, decide_eq_true_eq]
        simp
      · rintro t x ⟨sp, wt, fr, od⟩ hx ⟨q1, os, fs, hF, q2, q3, q4, q5⟩
        dsimp only at q1 q3 q4 q5
        subst q3 q4 q5
        have ht : t < web.length := by
          have := (List.getElem?_eq_some_iff.mp hx).1
          rw [rng_len] at this
          omega
        have hpos := hF.some (by omega)
        have hfl : fs.length ≤ web.length := nodup_len _ fs hF.fnd fun x hx => ((hF.free x).mp hx).1
        unfold m_law_free_order_L2
        simp only [run_bind, run_bind2, run_guard, run_rt, casts_len]
        refine draw_wp q1 (by omega) (by omega) (by omega) fun p s1 a1 a2 hs1 => ?_
        obtain ⟨p, rfl⟩ : ∃ m : Nat, p = m := ⟨p.toNat, by omega⟩
        dsimp only
        refine popI_wp (by rw [casts_len]; omega) (by rw [casts_len]; omega) ?_
        have hp : p < fs.length := by omega
        generalize hi : fs[p] = i
        have e3 : (casts fs)[p]'(by rw [casts_len]; exact hp) = (i : Int) := by
          unfold casts
          rw [List.getElem_map, hi]
        have e4 : (casts fs).eraseIdx p = casts (fs.erase i) := by
          unfold casts
          rw [← hi, erase_at hF.fnd hp, map_eraseIdx]
        rw [e3, e4]
        have him : i ∈ fs := hi ▸ List.getElem_mem hp
        obtain ⟨i1, i2, i3⟩ := (hF.free i).mp him
        refine apd_wp (by rw [casts_len]; omega) ⟨⟨by omega, by omega, by omega, by omega⟩, ?_⟩
        have e5 : casts os ++ [(i : Int)] = casts (os ++ [i]) := by unfold casts; simp
        rw [e5]
        dsimp only
        have hrl : (rng ((i : Int) + 1) (web.length : Int)).length = web.length - (i + 1) := by rw [rng_len]; omega
        have hFn : (fs.erase i).Nodup := hF.fnd.erase i
        refine forL_wp (fun m q => ∃ gs : List Nat, gs.Nodup ∧ q.1 = mapR web.length (fun j => if j < i + 1 + m then (wc web (os ++ [i]) j : Int) else (wc web os j : Int)) ∧ q.2 = casts gs ∧
          ∀ j, j ∈ gs ↔ j < web.length ∧ j ∉ os ++ [i] ∧ (if j < i + 1 + m then wc web (os ++ [i]) j = 0 else wc web os j = 0)) ⟨_, hFn, ?_, rfl, fun j => ?_⟩ ?_ ?_
        · refine mapR_congr fun j _ => ?_
          split
          · rw [wc_snoc i2, if_neg (by omega)]
          · rfl
        · rw [List.Nodup.mem_erase_iff hF.fnd, hF.free]
          have : (if j < i + 1 + 0 then wc web (os ++ [i]) j = 0 else wc web os j = 0) ↔ wc web os j = 0 := by
            split
            · rw [wc_snoc i2, if_neg (by omega)]
            · exact Iff.rfl
          rw [this, List.mem_append, List.mem_singleton]
          constructor
          · rintro ⟨h1, h2, h3, h4⟩; exact ⟨h2, fun z => z.elim h3 h1, h4⟩
          · rintro ⟨h1, h2, h3⟩; exact ⟨fun z => h2 (.inr z), h1, fun z => h2 (.inl z), h3⟩
        · rintro m y ⟨wt, fr⟩ hy ⟨gs, g1, g2, g3, g4⟩
          dsimp only at g2 g3
          subst g2 g3
          obtain ⟨hm, rfl⟩ := rng_get hy
          have hm' : m < web.length - (i + 1) := by omega
          obtain ⟨j, hj⟩ : ∃ j : Nat, (i : Int) + 1 + (m : Int) = (j : Int) := ⟨i + 1 + m, by omega⟩
          rw [hj]
          have hjl : j < web.length := by omega
          have hjm : j = i + 1 + m := by omega
          unfold m_law_free_order_L1
          simp only [run_bind, run_opt, run_rt, gW_at i1, gW_at hjl, Option.some.injEq, exists_eq_left']
          refine lawstep_wp ?_
          have hgl : gs.length ≤ 100000 := by
            have := nodup_len _ gs g1 fun x hx => ((g4 x).mp hx).1
            omega
          have hs2 := wc_snoc (web := web) (j := j) i2
          have hsW : stS (gW web i) (gW web j) = sW web i j := rfl
          rw [hsW]
          by_cases c : sW web i j = true
          · rw [if_pos ⟨by omega, c⟩] at hs2
            have hp0 := wc_pos i2 (show i < j by omega) c
            simp only [run_if, run_bind, run_opt, run_rt]
            rw [if_pos c]
            refine ⟨_, mapR_at hjl, ?_⟩
            rw [if_neg (by omega)]
            refine sti_wp (by omega) (by rw [mapR_len]; omega) ?_
            rw [Int.toNat_natCast, mapR_set hjl]
            refine ⟨_, mapR_at hjl, ?_⟩
            rw [if_pos rfl]
            have hnew : (mapR web.length fun q => if q = j then (wc web os j : Int) - 1 else if q < i + 1 + m then (wc web (os ++ [i]) q : Int) else (wc web os q : Int)) =
                mapR web.length fun q => if q < i + 1 + (m + 1) then (wc web (os ++ [i]) q : Int) else (wc web os q : Int) := by
              refine mapR_congr fun q _ => ?_
              by_cases d : q = j
              · subst d
                rw [if_pos rfl, if_pos (by omega), hs2]
                omega
              · rw [if_neg d]
                by_cases e : q < i + 1 + m
                · rw [if_pos e, if_pos (by omega)]
                · rw [if_neg e, if_neg (by omega)]
            rw [hnew]
            have hjos : j ∉ os := fun z => by
              -- what stands in the order waits for none
              obtain ⟨l1, l2, e⟩ := List.append_of_mem z
              have := hF.topo l1 j l2 e i (by omega) c
              exact i2 (by rw [e]; exact List.mem_append_left _ this)
            by_cases d : (wc web os j : Int) - 1 = 0
            · rw [if_pos (decide_eq_true d)]
              have e6 : casts gs ++ [(j : Int)] = casts (gs ++ [j]) := by unfold casts; simp
              have hjg : j ∉ gs := fun z => by
                have := ((g4 j).mp z).2.2
                rw [if_neg (by omega)] at this
                omega
              refine apd_wp (by rw [casts_len]; omega) ⟨gs ++ [j], ?_, rfl, e6, fun q => ?_⟩
              · exact List.nodup_append.mpr ⟨g1, by simp, fun a ha b hb => by rw [List.mem_singleton] at hb; subst hb; exact fun e => hjg (e ▸ ha)⟩
              · rw [List.mem_append, List.mem_singleton, g4]
                by_cases e : q = j
                · subst e
                  rw [if_pos (show q < i + 1 + (m + 1) by omega), hs2]
                  constructor
                  · intro _
                    refine ⟨hjl, ?_, by omega⟩
                    rw [List.mem_append, List.mem_singleton]
                    rintro (z | z)
                    · exact hjos z
                    · omega
                  · intro _; exact .inr rfl
                · have : (if q < i + 1 + (m + 1) then wc web (os ++ [i]) q = 0 else wc web os q = 0) ↔ (if q < i + 1 + m then wc web (os ++ [i]) q = 0 else wc web os q = 0) := by
                    by_cases e' : q < i + 1 + m
                    · rw [if_pos e', if_pos (by omega)]
                    · rw [if_neg e', if_neg (by omega)]
                  rw [this]
                  simp [e]
            · rw [if_neg (by simpa using d)]
              refine ⟨gs, g1, rfl, rfl, fun q => ?_⟩
              rw [g4]
              by_cases e : q = j
              · subst e
                rw [if_neg (show ¬ q < i + 1 + m by omega), if_pos (show q < i + 1 + (m + 1) by omega), hs2]
                constructor
                · rintro ⟨_, _, z⟩; omega
                · rintro ⟨_, _, z⟩; omega
              · have : (if q < i + 1 + (m + 1) then wc web (os ++ [i]) q = 0 else wc web os q = 0) ↔ (if q < i + 1 + m then wc web (os ++ [i]) q = 0 else wc web os q = 0) := by
                  by_cases e' : q < i + 1 + m
                  · rw [if_pos e', if_pos (by omega)]
                  · rw [if_neg e', if_neg (by omega)]
                rw [this]
          · rw [if_neg (fun z => c z.2)] at hs2
            simp only [run_if, run_rt]
            rw [if_neg c]
            have same : ∀ q, (if q < i + 1 + (m + 1) then wc web (os ++ [i]) q else wc web os q) = (if q < i + 1 + m then wc web (os ++ [i]) q else wc web os q) := by
              intro q
              by_cases e' : q < i + 1 + m
              · rw [if_pos e', if_pos (by omega)]
              · rw [if_neg e']
                by_cases e : q = j
                · subst e
                  rw [if_pos (by omega), hs2]
                · rw [if_neg (by omega)]
            refine ⟨gs, g1, mapR_congr fun q _ => ?_, rfl, fun q => ?_⟩
            · have := same q
              by_cases a : q < i + 1 + (m + 1) <;> by_cases b : q < i + 1 + m <;> simp only [a, b, if_true, if_false] at this ⊢ <;> rw [this]
            · rw [g4]
              have := same q
              by_cases a : q < i + 1 + (m + 1) <;> by_cases b : q < i + 1 + m <;> simp only [a, b, if_true, if_false] at this ⊢ <;> rw [this]
        · rintro ⟨wt, fr⟩ ⟨gs, g1, g2, g3, g4⟩
          dsimp only at g2 g3
          subst g2 g3
          rw [hrl] at g4 ⊢
          refine ⟨hs1.mo (by omega), os ++ [i], gs, ⟨?_, ?_, ?_, g1, fun j => ?_⟩, by rw [List.length_append, q2]; rfl, mapR_congr fun j hj => ?_, rfl, rfl⟩
          · exact List.nodup_append.mpr ⟨hF.nd, by simp, fun a ha b hb => by rw [List.mem_singleton] at hb; subst hb; exact fun e => i2 (e ▸ ha)⟩
          · intro x hx
            rcases List.mem_append.mp hx with z | z
            · exact hF.lt x z
            · rw [List.mem_singleton.mp z]; exact i1
          · exact topo_snoc hF.topo (wc_zero i3)
          · rw [g4]
            constructor
            · rintro ⟨h1, h2, h3⟩
              rw [if_pos (by omega)] at h3
              exact ⟨h1, h2, h3⟩
            · rintro ⟨h1, h2, h3⟩
              refine ⟨h1, h2, ?_⟩
              rw [if_pos (by omega)]
              exact h3
          · rw [if_pos (by omega)]
      · rintro ⟨sp, wt, fr, od⟩ ⟨q1, os, fs, hF, q2, q3, q4, q5⟩
        dsimp only at q1 q5
        subst q5
        rw [rng_len] at q1 q2
        exact k os sp (by omega) hF.lt hF.nd hF.topo (q1.mo (by omega))
end
end M

/-! # the names of touches -/
namespace M
open PySem L2 Z
def cnt (web : List (P3 Int Str Int)) (h : Int) : Nat := (web.filter fun t => decide (t.a = h)).length
theorem cnt_nil (h : Int) : cnt [] h = 0 := rfl
theorem cnt_snoc (web : List (P3 Int Str Int)) (t : P3 Int Str Int) (h : Int) : cnt (web ++ [t]) h = cnt web h + (if t.a = h then 1 else 0) := by
  unfold cnt
  rw [List.filter_append, List.length_append]
  by_cases c : t.a = h
  · simp [c]
  · simp [c]
def nmF : List (P3 Int Str Int) → List (Int × Int)
  | [] => []
  | t :: r => nmF r ++ [(t.a, (cnt r.reverse t.a : Int))]
/-- the names of a web's touches -/
def nmS (web : List (P3 Int Str Int)) : List (Int × Int) := nmF web.reverse
theorem nmS_nil : nmS [] = [] := rfl
theorem nmS_snoc (web : List (P3 Int Str Int)) (t : P3 Int Str Int) : nmS (web ++ [t]) = nmS web ++ [(t.a, (cnt web t.a : Int))] := by
  unfold nmS
  simp [nmF]
theorem nmS_len (web : List (P3 Int Str Int)) : (nmS web).length = web.length := by
  unfold nmS
  rw [← List.length_reverse (as := web)]
  generalize web.reverse = r
  induction r with
  | nil => rfl
  | cons t r ih => simp [nmF, ih]
theorem take_snoc {α : Type} {xs : List α} {i : Nat} {x : α} (h : xs[i]? = some x) : xs.take (i + 1) = xs.take i ++ [x] := by
  rw [List.take_add_one, h]
  rfl
theorem nmS_dropLast (web : List (P3 Int Str Int)) : nmS web.dropLast = (nmS web).dropLast := by
  rcases List.eq_nil_or_concat web with rfl | ⟨r, t, rfl⟩
  · rfl
  · rw [List.concat_eq_append, List.dropLast_concat, nmS_snoc, List.dropLast_concat]
theorem names_wp {web : List (P3 Int Str Int)} {Φ : List (Int × Int) → Prop} (hw : ∀ t ∈ web, ToOk t) (hl : web.length ≤ 1000) (k : Φ (nmS web)) : (m_names web).run Φ := by
  unfold m_names
  simp only [run_bind, run_rt, run_guard]
  refine ⟨⟨by decide, by decide, by decide⟩, ?_⟩
  refine forL_wp (fun i s => s.1.length = 8 ∧ (∀ h : Nat, h < 8 → s.1[h]? = some (cnt (web.take i) h : Int)) ∧ s.2 = nmS (web.take i)) ?_ ?_ ?_
  · refine ⟨by decide, fun h hh => ?_, rfl⟩
    have : h = 0 ∨ h = 1 ∨ h = 2 ∨ h = 3 ∨ h = 4 ∨ h = 5 ∨ h = 6 ∨ h = 7 := by omega
    rcases this with rfl | rfl | rfl | rfl | rfl | rfl | rfl | rfl <;> rfl
  · rintro i t ⟨many, found⟩ hx ⟨q1, q2, q3⟩
    dsimp only at q1 q2 q3
    have hil : i < web.length := (List.getElem?_eq_some_iff.mp hx).1
    have ht := hw t (List.mem_of_getElem? hx)
    have h0 := ht.h0
    have h8 := ht.h8
    obtain ⟨j, hj⟩ : ∃ j : Nat, t.a = j := ⟨t.a.toNat, by omega⟩
    have g := q2 j (by omega)
    have ga : atI many t.a = some (cnt (web.take i) j : Int) := by rw [hj]; exact atI_nat g
    unfold m_names_L1
    simp only [run_bind, run_rt, run_opt, ga, Option.some.injEq, exists_eq_left']
    have hfl : found.length ≤ 100000 := by
      rw [q3, nmS_len, List.length_take]
      omega
    refine apd_wp hfl (sti_wp h0 (by rw [q1]; omega) ?_)
    refine ⟨by simp [q1], fun h hh => ?_, ?_⟩
    · rw [take_snoc hx, cnt_snoc]
      have ej : t.a.toNat = j := by omega
      rw [ej, List.getElem?_set]
      by_cases c : j = h
      · subst c
        rw [if_pos rfl, if_pos (by omega), if_pos hj]
        simp
      · rw [if_neg c, q2 h hh, if_neg (by omega)]
        simp
    · rw [take_snoc hx, nmS_snoc, q3, hj]
  · rintro ⟨many, found⟩ ⟨q1, q2, q3⟩
    dsimp only at q3
    rw [List.take_length] at q3
    dsimp only
    rw [q3]
    exact k
end M

/-! # dicts as lists of pairs -/
namespace M
open PySem L2 Z
section
variable {κ α : Type} [DecidableEq κ]
theorem valM_cons {k j : κ} {a : α} {m : Dc κ α} : valM ((k, a) :: m) j = if k = j then some a else valM m j := by
  unfold valM
  rw [List.find?_cons]
  by_cases c : k = j <;> simp [c]
theorem valM_map {k j : κ} {a : α} : ∀ {m : Dc κ α}, valM (m.map fun p => if p.1 = k then (p.1, a) else p) j = (valM m j).map fun x => if j = k then a else x
  | [] => rfl
  | (q, b) :: m => by
    have ih := valM_map (k := k) (j := j) (a := a) (m := m)
    rw [List.map_cons]
    by_cases c : q = k
    · rw [if_pos c, valM_cons, valM_cons]
      by_cases d : q = j
      · rw [if_pos d, if_pos d, Option.map_some, if_pos (d.symm.trans c)]
      · rw [if_neg d, if_neg d, ih]
    · rw [if_neg c, valM_cons, valM_cons]
      by_cases d : q = j
      · rw [if_pos d, if_pos d, Option.map_some, if_neg (fun e => c (d.trans e))]
      · rw [if_neg d, if_neg d, ih]
theorem valM_snoc {k j : κ} {a : α} : ∀ {m : Dc κ α}, valM m k = none → valM (m ++ [(k, a)]) j = if j = k then some a else valM m j
  | [], _ => by
    rw [List.nil_append, valM_cons]
    by_cases c : k = j
    · rw [if_pos c, if_pos c.symm]
    · rw [if_neg c, if_neg (fun e => c e.symm)]
  | (q, b) :: m, h => by
    rw [valM_cons] at h
    by_cases c : q = k
    · rw [if_pos c] at h; cases h
    · rw [if_neg c] at h
      rw [List.cons_append, valM_cons, valM_cons, valM_snoc h]
      by_cases d : q = j
      · rw [if_pos d, if_pos d, if_neg (fun e => c (d.trans e))]
      · rw [if_neg d, if_neg d]
theorem anyM {k : κ} : ∀ {m : Dc κ α}, (m.any fun p => decide (p.1 = k)) = (valM m k).isSome
  | [] => rfl
  | (q, b) :: m => by
    rw [List.any_cons, anyM, valM_cons]
    by_cases c : q = k
    · simp [c]
    · simp [c]
theorem valM_put {k j : κ} {a : α} {m : Dc κ α} : valM (putM m k a) j = if j = k then some a else valM m j := by
  unfold putM
  rw [anyM]
  cases e : valM m k with
  | none => exact valM_snoc e
  | some b =>
    show valM (m.map fun p => if p.1 = k then (p.1, a) else p) j = _
    rw [valM_map]
    by_cases c : j = k
    · subst c
      rw [e, if_pos rfl, Option.map_some, if_pos rfl]
    · rw [if_neg c]
      cases valM m j with
      | none => rfl
      | some x => simp [c]
theorem putM_len {k : κ} {a : α} {m : Dc κ α} : (putM m k a).length ≤ m.length + 1 := by
  unfold putM
  split
  · rw [List.length_map]; omega
  · rw [List.length_append]; exact Nat.le_refl _
theorem putG_wp {k : κ} {a : α} {m : Dc κ α} {Φ : Dc κ α → Prop} (h : m.length ≤ 100000) (q : Φ (putM m k a)) : (putG m k a).run Φ := ⟨small' h, q⟩
end
end M

/-! # names are unlike; places by names -/
namespace M
open PySem L2 Z
section
variable {web : List Tch} {h : Int} {i j : Nat}
def nmN (web : List Tch) (j : Nat) : Int × Int := ((gW web j).a, (cnt (web.take j) (gW web j).a : Int))
theorem nmS_get : ∀ (n : Nat) (web : List Tch), web.length = n → ∀ j, j < n → (nmS web)[j]? = some (nmN web j) := by
  intro n
  induction n with
  | zero => intro web _ j h; omega
  | succ n ih =>
    intro web hl j hj
    rcases List.eq_nil_or_concat web with rfl | ⟨r, t, rfl⟩
    · simp at hl
    · rw [List.concat_eq_append] at hl ⊢
      have hr : r.length = n := by simpa using hl
      rw [nmS_snoc]
      by_cases c : j < n
      · rw [List.getElem?_append_left (by rw [nmS_len]; omega), ih r hr j c]
        unfold nmN gW
        rw [List.getD_eq_getElem?_getD, List.getD_eq_getElem?_getD, List.getElem?_append_left (by omega), List.take_append_of_le_length (by omega)]
      · have e : j = r.length := by omega
        subst e
        rw [List.getElem?_append_right (by rw [nmS_len]; exact Nat.le_refl _), nmS_len]
        unfold nmN gW
        rw [List.getD_eq_getElem?_getD, List.getElem?_append_right (Nat.le_refl _), List.take_append_of_le_length (Nat.le_refl _)]
        simp
theorem nmS_at (hj : j < web.length) : atI (nmS web) (j : Int) = some (nmN web j) := atI_nat (nmS_get _ web rfl j hj)
theorem cnt_step (hj : j < web.length) : cnt (web.take (j + 1)) h = cnt (web.take j) h + if (gW web j).a = h then 1 else 0 := by
  rw [take_snocN (gW_get hj), cnt_snoc]
theorem cnt_mono (hi : (gW web i).a = h) : ∀ {j}, i < j → j ≤ web.length → cnt (web.take i) h + 1 ≤ cnt (web.take j) h
  | 0, a, _ => by omega
  | j + 1, a, b => by
    rw [cnt_step (by omega)]
    by_cases c : i = j
    · subst c
      rw [if_pos hi]; exact Nat.le_refl _
    · have := cnt_mono hi (j := j) (by omega) (by omega)
      omega
theorem nm_ne (hij : i < j) (hj : j < web.length) : nmN web i ≠ nmN web j := fun e => by
  unfold nmN at e
  have e1 := congrArg Prod.fst e
  have e2 := congrArg Prod.snd e
  dsimp only at e1 e2
  have := cnt_mono (web := web) e1 hij (by omega)
  rw [e1] at e2
  omega
theorem nm_inj (hi : i < web.length) (hj : j < web.length) (e : nmN web i = nmN web j) : i = j := by
  rcases Nat.lt_trichotomy i j with c | c | c
  · exact absurd e (nm_ne c hj)
  · exact c
  · exact absurd e.symm (nm_ne c hi)
/-- the last place of a hand below a place -/
def li (web : List Tch) (h : Int) : Nat → Option Nat
  | 0 => none
  | j + 1 => if (gW web j).a = h then some j else li web h j
theorem li_none : ∀ {j}, j ≤ web.length → li web h j = none → cnt (web.take j) h = 0
  | 0, _, _ => rfl
  | j + 1, hj, e => by
    unfold li at e
    split at e
    · cases e
    · rename_i c
      rw [cnt_step (by omega), if_neg c, li_none (by omega) e]
theorem li_some : ∀ {j}, j ≤ web.length → li web h j = some i → i < j ∧ (gW web i).a = h ∧ cnt (web.take i) h + 1 = cnt (web.take j) h
  | 0, _, e => by cases e
  | j + 1, hj, e => by
    unfold li at e
    split at e
    · rename_i c
      cases e
      exact ⟨Nat.lt_succ_self _, c, by rw [cnt_step (by omega), if_pos c]⟩
    · rename_i c
      obtain ⟨h1, h2, h3⟩ := li_some (by omega) e
      exact ⟨by omega, h2, by rw [cnt_step (by omega), if_neg c]; exact h3⟩
theorem idx_nm (hi : i < web.length) : idxD (nmN web i) (nmS web) = some (i : Int) := by
  have hil : i < (nmS web).length := by rw [nmS_len]; exact hi
  have get : ∀ m (hm : m < (nmS web).length), (nmS web)[m] = nmN web m := fun m hm => by
    have := nmS_get _ web rfl m (by rw [nmS_len] at hm; exact hm)
    rw [List.getElem?_eq_getElem hm] at this
    exact Option.some.inj this
  unfold idxD
  have : (nmS web).findIdx? (fun y => eqD y (nmN web i)) = some i := by
    rw [List.findIdx?_eq_some_iff_getElem]
    refine ⟨hil, by rw [get, eqD_self], fun m hm => ?_⟩
    rw [get, eqD_dec, decide_eq_false (nm_ne hm hi)]
    decide
  rw [this]
  rfl
theorem places_wp {Φ : Dc (Int × Int) Int → Prop} (hw : ∀ t ∈ web, ToOk t) (hl : web.length ≤ 1000) (k : ∀ m : Dc (Int × Int) Int, (∀ i, i < web.length → valM m (nmN web i) = some (i : Int)) → Φ m) : (m_places_of web).run Φ := by
  unfold m_places_of
  simp only [run_bind, run_rt, run_guard]
  refine names_wp hw hl ⟨⟨by decide, by decide, by omega, by omega⟩, ?_⟩
  refine forL_wp (fun t q => q.length ≤ t ∧ ∀ i, i < t → valM q (nmN web i) = some (i : Int)) ⟨Nat.le_refl _, fun i h => by omega⟩ ?_ ?_
  · rintro t x q hx ⟨q1, q2⟩
    obtain ⟨ht, rfl⟩ := rng_get hx
    have htl : t < web.length := by omega
    rw [Int.zero_add]
    unfold m_places_of_L1
    simp only [run_bind, run_opt, run_rt, nmS_at htl, Option.some.injEq, exists_eq_left']
    refine putG_wp (by omega) ⟨Nat.le_trans putM_len (by omega), fun i hi => ?_⟩
    rw [valM_put]
    by_cases c : i = t
    · subst c
      rw [if_pos rfl]
    · rw [if_neg (fun e => c (nm_inj (by omega) htl e)), q2 i (by omega)]
  · rintro q ⟨_, q2⟩
    rw [rng_len, Int.sub_zero, Int.toNat_natCast] at q2
    exact k q q2
end
end M

/-! # what each touch knows, in plain Lean -/
namespace M
open PySem L2 Z
def mx (a b : Int) : Int := if b > a then b else a
theorem mx_l {a b : Int} : a ≤ mx a b := by unfold mx; split <;> omega
theorem mx_r {a b : Int} : b ≤ mx a b := by unfold mx; split <;> omega
theorem mx_le {a b c : Int} (h1 : a ≤ c) (h2 : b ≤ c) : mx a b ≤ c := by unfold mx; split <;> omega
section
variable (hd : Nat → Nat) (st : Nat → Nat → Bool)
def cn (h : Nat) : Nat → Int
  | 0 => 0
  | x + 1 => cn h x + (if hd x = h then 1 else 0)
def supR (T : Nat → Nat → Int) (x h : Nat) : Nat → Int
  | 0 => 0
  | m + 1 => if st m x = true then mx (supR T x h m) (T m h) else supR T x h m
def rowF (T : Nat → Nat → Int) (x h : Nat) : Int := if h = hd x then cn hd (hd x) x + 1 else supR st T x h x
def tbF : Nat → Nat → Nat → Int
  | 0 => fun _ _ => 0
  | n + 1 => fun x h => if x = n then rowF hd st (tbF n) n h else tbF n x h
def TT (x h : Nat) : Int := tbF hd st (x + 1) x h
def supD (T : Nat → Nat → Int) (x h : Nat) : Nat → Int
  | 0 => 0
  | t + 1 => if st (x - 1 - t) x = true then mx (supD T x h t) (T (x - 1 - t) h) else supD T x h t
end
section
variable {hd : Nat → Nat} {st : Nat → Nat → Bool} {T T' : Nat → Nat → Int} {x h m t : Nat} {c : Int}
theorem tbF_eq : ∀ {n x : Nat}, x < n → tbF hd st n x h = TT hd st x h
  | 0, x, hx => by omega
  | n + 1, x, hx => by
    by_cases e : x = n
    · subst e; rfl
    · show (if x = n then _ else tbF hd st n x h) = _
      rw [if_neg e]
      exact tbF_eq (by omega)
theorem supR_congr (e : ∀ y, y < m → T y h = T' y h) : supR st T x h m = supR st T' x h m := by
  induction m with
  | zero => rfl
  | succ m ih =>
    show (if st m x = true then mx (supR st T x h m) (T m h) else supR st T x h m) = (if st m x = true then mx (supR st T' x h m) (T' m h) else supR st T' x h m)
    rw [ih fun y hy => e y (by omega), e m (by omega)]
theorem TT_eq : TT hd st x h = if h = hd x then cn hd (hd x) x + 1 else supR st (TT hd st) x h x := by
  show (if x = x then rowF hd st (tbF hd st x) x h else _) = _
  rw [if_pos rfl]
  unfold rowF
  rw [supR_congr fun y hy => tbF_eq hy]
theorem supR_nn : 0 ≤ supR st T x h m := by
  induction m with
  | zero => exact Int.le_refl 0
  | succ m ih =>
    show 0 ≤ (if st m x = true then mx (supR st T x h m) (T m h) else supR st T x h m)
    split
    · exact Int.le_trans ih mx_l
    · exact ih
theorem supR_ge {y : Nat} (hy : y < m) (hs : st y x = true) : T y h ≤ supR st T x h m := by
  induction m with
  | zero => omega
  | succ m ih =>
    show T y h ≤ (if st m x = true then mx (supR st T x h m) (T m h) else supR st T x h m)
    by_cases e : y = m
    · subst e
      rw [if_pos hs]; exact mx_r
    · have q := ih (by omega)
      split
      · exact Int.le_trans q mx_l
      · exact q
theorem supR_le (h0 : 0 ≤ c) (hc : ∀ y, y < m → st y x = true → T y h ≤ c) : supR st T x h m ≤ c := by
  induction m with
  | zero => exact h0
  | succ m ih =>
    show (if st m x = true then mx (supR st T x h m) (T m h) else supR st T x h m) ≤ c
    have q := ih fun y hy => hc y (by omega)
    split
    · rename_i e; exact mx_le q (hc m (by omega) e)
    · exact q
theorem supR_gt (h0 : 0 ≤ c) (hc : c < supR st T x h m) : ∃ y, y < m ∧ st y x = true ∧ c < T y h := by
  refine Classical.byContradiction fun q => ?_
  have := supR_le (st := st) (T := T) (x := x) (h := h) (m := m) h0 fun y hy hs => Classical.byContradiction fun z => q ⟨y, hy, hs, by omega⟩
  omega
theorem supD_nn : 0 ≤ supD st T x h t := by
  induction t with
  | zero => exact Int.le_refl 0
  | succ m ih =>
    show 0 ≤ (if st (x - 1 - m) x = true then mx (supD st T x h m) (T (x - 1 - m) h) else supD st T x h m)
    split
    · exact Int.le_trans ih mx_l
    · exact ih
theorem supD_ge {y : Nat} (ht : t ≤ x) (hy : x - t ≤ y) (hx : y < x) (hs : st y x = true) : T y h ≤ supD st T x h t := by
  induction t with
  | zero => omega
  | succ m ih =>
    show T y h ≤ (if st (x - 1 - m) x = true then mx (supD st T x h m) (T (x - 1 - m) h) else supD st T x h m)
    by_cases e : y = x - 1 - m
    · subst e
      rw [if_pos hs]; exact mx_r
    · have q := ih (by omega) (by omega)
      split
      · exact Int.le_trans q mx_l
      · exact q
theorem supD_le (ht : t ≤ x) (h0 : 0 ≤ c) (hc : ∀ y, x - t ≤ y → y < x → st y x = true → T y h ≤ c) : supD st T x h t ≤ c := by
  induction t with
  | zero => exact h0
  | succ m ih =>
    show (if st (x - 1 - m) x = true then mx (supD st T x h m) (T (x - 1 - m) h) else supD st T x h m) ≤ c
    have q := ih (by omega) fun y hy => hc y (by omega)
    split
    · rename_i e; exact mx_le q (hc _ (by omega) (by omega) e)
    · exact q
theorem supD_gt (ht : t ≤ x) (h0 : 0 ≤ c) (hc : c < supD st T x h t) : ∃ y, x - t ≤ y ∧ y < x ∧ st y x = true ∧ c < T y h := by
  refine Classical.byContradiction fun q => ?_
  have := supD_le (st := st) (T := T) (x := x) (h := h) (t := t) ht h0 fun y hy hx hs => Classical.byContradiction fun z => q ⟨y, hy, hx, hs, by omega⟩
  omega
theorem supD_full : supD st T x h x = supR st T x h x := Int.le_antisymm
  (supD_le (Nat.le_refl _) supR_nn fun y _ hx hs => supR_ge hx hs)
  (supR_le supD_nn fun y hy hs => supD_ge (Nat.le_refl _) (by omega) hy hs)
theorem cn_nn : 0 ≤ cn hd h x := by
  induction x with
  | zero => exact Int.le_refl 0
  | succ x ih =>
    show 0 ≤ cn hd h x + (if hd x = h then 1 else 0)
    split <;> omega
theorem cn_mono {y : Nat} (hy : y ≤ x) : cn hd h y ≤ cn hd h x := by
  induction x with
  | zero => rw [Nat.le_zero.mp hy]; exact Int.le_refl _
  | succ x ih =>
    by_cases e : y = x + 1
    · rw [e]; exact Int.le_refl _
    · have q := ih (by omega)
      show _ ≤ cn hd h x + (if hd x = h then 1 else 0)
      split <;> omega
theorem cn_own : cn hd (hd x) (x + 1) = cn hd (hd x) x + 1 := by
  show cn hd (hd x) x + (if hd x = hd x then 1 else 0) = _
  rw [if_pos rfl]
theorem TT_bd : ∀ x h : Nat, TT hd st x h ≤ cn hd h (x + 1) := by
  intro x
  induction x using Nat.strongRecOn with
  | ind x ih =>
    intro h
    rw [TT_eq]
    split
    · rename_i e; rw [e, cn_own]; exact Int.le_refl _
    · exact supR_le cn_nn fun y hy _ => Int.le_trans (ih y hy h) (cn_mono (by omega))
theorem TT_step {y : Nat} (hy : y < x) (hs : st y x = true) : TT hd st y h ≤ TT hd st x h := by
  rw [TT_eq (x := x)]
  split
  · rename_i e
    have q := TT_bd (hd := hd) (st := st) y h
    have q2 := cn_mono (hd := hd) (h := h) (y := y + 1) (x := x) (by omega)
    rw [← e]
    omega
  · exact supR_ge hy hs
theorem TT_trans (hst : ∀ y x, hd y = hd x → st y x = true) : ∀ x i : Nat, cn hd (hd i) i < TT hd st x (hd i) → i ≤ x ∧ ∀ h, TT hd st i h ≤ TT hd st x h := by
  intro x
  induction x using Nat.strongRecOn with
  | ind x ih =>
    intro i hi
    rw [TT_eq] at hi
    by_cases e : hd i = hd x
    · rw [if_pos e] at hi
      have hix : i ≤ x := by
        refine Classical.byContradiction fun q => ?_
        have q2 := cn_mono (hd := hd) (h := hd x) (y := x + 1) (x := i) (by omega)
        rw [cn_own] at q2
        rw [e] at hi
        omega
      refine ⟨hix, fun h => ?_⟩
      by_cases e2 : i = x
      · rw [e2]; exact Int.le_refl _
      · exact TT_step (by omega) (hst i x e)
    · rw [if_neg e] at hi
      obtain ⟨y, hy, hs, hl⟩ := supR_gt cn_nn hi
      obtain ⟨h1, h2⟩ := ih y hy i hl
      exact ⟨by omega, fun h => Int.le_trans (h2 h) (TT_step hy hs)⟩
/-- what is passed over changes nothing -/
theorem skip (hst : ∀ y x, hd y = hd x → st y x = true) (ht : t < x) (hk : cn hd (hd (x - 1 - t)) (x - 1 - t) < supD st (TT hd st) x (hd (x - 1 - t)) t) (h : Nat) : supD st (TT hd st) x h (t + 1) = supD st (TT hd st) x h t := by
  show (if st (x - 1 - t) x = true then mx (supD st (TT hd st) x h t) (TT hd st (x - 1 - t) h) else supD st (TT hd st) x h t) = _
  split
  · obtain ⟨y, hy, hx, hs, hl⟩ := supD_gt (by omega) cn_nn hk
    have q := (TT_trans hst y _ hl).2 h
    have q2 := supD_ge (T := TT hd st) (h := h) (by omega) hy hx hs
    unfold mx
    rw [if_neg (by omega)]
  · rfl
theorem TT_own : TT hd st x (hd x) = cn hd (hd x) x + 1 := by rw [TT_eq, if_pos rfl]
theorem TT_oth (e : h ≠ hd x) : TT hd st x h = supR st (TT hd st) x h x := by rw [TT_eq, if_neg e]
end
/-- a row of eight -/
def rowL (f : Nat → Int) : List Int := (List.range 8).map f
theorem case8 {P : Nat → Prop} {h : Nat} (hh : h < 8) (h0 : P 0) (h1 : P 1) (h2 : P 2) (h3 : P 3) (h4 : P 4) (h5 : P 5) (h6 : P 6) (h7 : P 7) : P h := by
  have : h = 0 ∨ h = 1 ∨ h = 2 ∨ h = 3 ∨ h = 4 ∨ h = 5 ∨ h = 6 ∨ h = 7 := by omega
  rcases this with rfl | rfl | rfl | rfl | rfl | rfl | rfl | rfl <;> assumption
theorem rowL_get {f : Nat → Int} {h : Nat} (hh : h < 8) : (rowL f)[h]? = some (f h) := case8 (P := fun h => (rowL f)[h]? = some (f h)) hh rfl rfl rfl rfl rfl rfl rfl rfl
theorem rowL_set {f : Nat → Int} {h : Nat} {v : Int} (hh : h < 8) : (rowL f).set h v = rowL fun x => if x = h then v else f x := case8 (P := fun h => (rowL f).set h v = rowL fun x => if x = h then v else f x) hh rfl rfl rfl rfl rfl rfl rfl rfl
theorem rowL_zip {f g : Nat → Int} : ((List.zip (rowL f) (rowL g)).filter fun _ => true).map (fun p => if p.2 > p.1 then p.2 else p.1) = rowL fun h => mx (f h) (g h) := rfl
theorem rowL_rng {f : Nat → Int} : ((rng 0 8).filter fun _ => true).map (fun h => f h.toNat) = rowL f := rfl
theorem rowL_zero : (List.replicate ((8 : Int)).toNat ([(0 : Int)] : List Int)).flatten = rowL fun _ => 0 := rfl
theorem rowL_len {f : Nat → Int} : (rowL f).length = 8 := rfl
theorem rowL_congr {f g : Nat → Int} (h : ∀ x, f x = g x) : rowL f = rowL g := by rw [show f = g from funext h]
end M

/-! # the law's step and calls -/
namespace M
open PySem L2 Z
theorem isz {n : Nat} (h : n ≤ 10000000) : n ≤ sizeLine := Nat.le_trans h (by decide)

section
variable {web : List Tch} {ends : List (Int × Int)} {T : List (List Int)} {n j : Nat}
end
end M

/-! # what must come ahead -/
namespace M
open PySem L2 Z
def hdW (web : List (P3 Int Str Int)) (x : Nat) : Nat := (gW web x).a.toNat
def stW (web : List (P3 Int Str Int)) (y x : Nat) : Bool := decide (hdW web y = hdW web x) || stS (gW web y) (gW web x)
abbrev TW (web : List (P3 Int Str Int)) : Nat → Nat → Int := TT (hdW web) (stW web)
abbrev cW (web : List (P3 Int Str Int)) (x : Nat) : Int := cn (hdW web) (hdW web x) x
theorem hst_W {web : List (P3 Int Str Int)} : ∀ y x, hdW web y = hdW web x → stW web y x = true := fun y x e => by
  unfold stW
  rw [decide_eq_true e]
  rfl
section
variable {web : List (P3 Int Str Int)} {x y i j : Nat}
theorem gW_ok (hw : ∀ t ∈ web, ToOk t) (h : x < web.length) : ToOk (gW web x) := hw _ (List.mem_of_getElem? (gW_get h))
theorem hdW_a (hw : ∀ t ∈ web, ToOk t) (h : x < web.length) : (gW web x).a = (hdW web x : Int) := by
  have := (gW_ok hw h).h0
  unfold hdW
  omega
theorem hdW_8 (hw : ∀ t ∈ web, ToOk t) (h : x < web.length) : hdW web x < 8 := by
  have := (gW_ok hw h).h8
  have := hdW_a hw h
  omega
theorem stW_S (hw : ∀ t ∈ web, ToOk t) (hy : y < web.length) (hx : x < web.length) : stW web y x = stS (gW web y) (gW web x) := by
  unfold stW stS
  have e : decide (hdW web y = hdW web x) = decide ((gW web y).a = (gW web x).a) := by
    rw [hdW_a hw hy, hdW_a hw hx]
    by_cases c : hdW web y = hdW web x
    · rw [decide_eq_true c, decide_eq_true (by rw [c])]
    · rw [decide_eq_false c, decide_eq_false (fun q => c (by omega))]
  rw [e]
  cases decide ((gW web y).a = (gW web x).a) <;> simp
theorem cn_cnt (hw : ∀ t ∈ web, ToOk t) (h : Nat) : ∀ x, x ≤ web.length → (cnt (web.take x) (h : Int) : Int) = cn (hdW web) h x
  | 0, _ => rfl
  | x + 1, hx => by
    have hx' : x < web.length := by omega
    rw [take_snoc (gW_get hx'), cnt_snoc]
    have ih := cn_cnt hw h x (by omega)
    show ((cnt (web.take x) (h : Int) + (if (gW web x).a = (h : Int) then 1 else 0) : Nat) : Int) = cn (hdW web) h x + (if hdW web x = h then 1 else 0)
    rw [← ih, hdW_a hw hx']
    by_cases c : hdW web x = h
    · rw [if_pos c, if_pos (by rw [c])]; omega
    · rw [if_neg c, if_neg (fun q => c (by omega))]; omega
theorem nm_take (hw : ∀ t ∈ web, ToOk t) : ∀ n, n ≤ web.length → ∀ x, x < n → (nmS (web.take n))[x]? = some ((hdW web x : Int), cW web x)
  | 0, _, x, hx => by omega
  | n + 1, hn, x, hx => by
    have hn' : n < web.length := by omega
    rw [take_snoc (gW_get hn'), nmS_snoc]
    have hl : (nmS (web.take n)).length = n := by rw [nmS_len, List.length_take]; omega
    by_cases e : x = n
    · subst e
      rw [List.getElem?_append_right (by omega), hl, Nat.sub_self]
      have q := cn_cnt hw (hdW web x) x (by omega)
      rw [hdW_a hw hn', q]
      rfl
    · rw [List.getElem?_append_left (by omega)]
      exact nm_take hw n (by omega) x (by omega)
theorem nm_get (hw : ∀ t ∈ web, ToOk t) (h : x < web.length) : (nmS web)[x]? = some ((hdW web x : Int), cW web x) := by
  have q := nm_take hw web.length (Nat.le_refl _) x h
  rwa [List.take_length] at q
theorem nm_at (hw : ∀ t ∈ web, ToOk t) (h : x < web.length) : atI (nmS web) (x : Int) = some ((hdW web x : Int), cW web x) := atI_nat (nm_get hw h)
def tabL (web : List (P3 Int Str Int)) (n : Nat) : List (List Int) := (List.range n).map fun x => rowL (TW web x)
theorem tab_len {n : Nat} : (tabL web n).length = n := by unfold tabL; simp
theorem tab_get {n : Nat} (h : x < n) : (tabL web n)[x]? = some (rowL (TW web x)) := by
  unfold tabL
  rw [List.getElem?_map, List.getElem?_range h]
  rfl
theorem tab_at {n : Nat} (h : x < n) : atI (tabL web n) (x : Int) = some (rowL (TW web x)) := atI_nat (tab_get h)
theorem tab_snoc {n : Nat} : tabL web (n + 1) = tabL web n ++ [rowL (TW web n)] := by
  unfold tabL
  rw [List.range_succ, List.map_append]
  rfl
theorem row_at {f : Nat → Int} {h : Nat} (hh : h < 8) : atI (rowL f) (h : Int) = some (f h) := atI_nat (rowL_get hh)
theorem is_step_wp {Φ : Bool → Prop} (hw : ∀ t ∈ web, ToOk t) (hy : y < web.length) (hx : x < web.length) (k : Φ (stW web y x)) : (m_is_step web (y : Int) (x : Int)).run Φ := by
  rw [stW_S hw hy hx] at k
  unfold stS at k
  unfold m_is_step
  simp only [run_bind, run_rt, run_opt, gW_at hy, gW_at hx, Option.some.injEq, exists_eq_left', run_ite]
  refine ⟨fun e => ?_, fun e => meets_wp ?_⟩
  · rw [e] at k; exact k
  · rw [e] at k; exact k
/-- the firsts that are met on the way back -/
def frs (web : List (P3 Int Str Int)) (x : Nat) : Nat → List Int
  | 0 => []
  | t + 1 => if supD (stW web) (TW web) x (hdW web (x - 1 - t)) t ≤ cW web (x - 1 - t) ∧ stW web (x - 1 - t) x = true ∧ hdW web (x - 1 - t) ≠ hdW web x then frs web x t ++ [((x - 1 - t : Nat) : Int)] else frs web x t
theorem frs_len : ∀ t, (frs web x t).length ≤ t
  | 0 => Nat.le_refl 0
  | t + 1 => by
    have q := frs_len t
    show (if _ then frs web x t ++ [((x - 1 - t : Nat) : Int)] else frs web x t).length ≤ t + 1
    split
    · rw [List.length_append]; exact Nat.succ_le_succ q
    · omega
theorem rngD_get {a b : Int} {i : Nat} {z : Int} (h : (rngD a b)[i]? = some z) : i < (a - b).toNat ∧ z = a - i := by
  unfold rngD at h
  rw [List.getElem?_map] at h
  cases e : (List.range (a - b).toNat)[i]? with
  | none => rw [e] at h; cases h
  | some k =>
    rw [e] at h
    obtain ⟨hl, ek⟩ := List.getElem?_eq_some_iff.mp e
    rw [List.getElem_range] at ek
    subst ek
    rw [List.length_range] at hl
    exact ⟨hl, (Option.some.inj h).symm⟩
theorem rngD_len {a b : Int} : (rngD a b).length = (a - b).toNat := by unfold rngD; simp
theorem looked_wp {Φ : List Int × List Int → Prop} (hw : ∀ t ∈ web, ToOk t) (hl : web.length ≤ 1000) (hj : j < web.length) (k : Φ (rowL (TW web j), frs web j j)) : (m_looked_back web (nmS web) (tabL web j) (j : Int)).run Φ := by
  unfold m_looked_back
  simp only [run_bind, run_rt, run_guard]
  refine ⟨⟨by decide, by decide, by decide⟩, ⟨⟨by decide, by decide, by omega, by omega⟩, ?_⟩⟩
  have hlen : (rngD ((j : Int) - 1) (-1)).length = j := by rw [rngD_len]; omega
  refine forL_wp (fun t s => s.1 = rowL (fun h => supD (stW web) (TW web) j h t) ∧ s.2 = frs web j t) ⟨rowL_zero, rfl⟩ ?_ ?_
  · rintro t z ⟨known, firsts⟩ hx ⟨q1, q2⟩
    dsimp only at q1 q2
    subst q1 q2
    obtain ⟨ht, rfl⟩ := rngD_get hx
    have htj : t < j := by omega
    obtain ⟨y, hy, ey⟩ : ∃ y : Nat, y = j - 1 - t ∧ ((j : Int) - 1 - (t : Int)) = (y : Int) := ⟨j - 1 - t, rfl, by omega⟩
    rw [ey]
    have hyl : y < web.length := by omega
    have h8 := hdW_8 hw hyl
    have hnx : ∀ h, supD (stW web) (TW web) j h (t + 1) = if stW web y j = true then mx (supD (stW web) (TW web) j h t) (TW web y h) else supD (stW web) (TW web) j h t := fun h => by rw [hy]; rfl
    have hfx : frs web j (t + 1) = if supD (stW web) (TW web) j (hdW web y) t ≤ cW web y ∧ stW web y j = true ∧ hdW web y ≠ hdW web j then frs web j t ++ [(y : Int)] else frs web j t := by rw [hy]; rfl
    unfold m_looked_back_L1
    simp only [run_bind, run_rt, run_opt, nm_at hw hyl, nm_at hw hj, Option.some.injEq, exists_eq_left', row_at h8, run_ite, tab_at (show y < j by omega)]
    have hge : decide (cW web y ≥ supD (stW web) (TW web) j (hdW web y) t) = decide (supD (stW web) (TW web) j (hdW web y) t ≤ cW web y) := rfl
    refine ⟨fun e => ?_, fun e => ?_⟩
    · have e' : supD (stW web) (TW web) j (hdW web y) t ≤ cW web y := of_decide_eq_true (hge ▸ e)
      refine is_step_wp hw hyl hj ?_
      refine ⟨fun es => ?_, fun es => ?_⟩
      · refine compG_wp (fun _ => true) (fun p => if p.2 > p.1 then p.2 else p.1) (by show 8 ≤ sizeLine; decide) (fun _ _ Ψ h => h) (fun x _ _ Ψ (h : Ψ (if x.2 > x.1 then x.2 else x.1)) => by show Ψ _; exact h) ?_
        rw [rowL_zip]
        have hrow : (rowL fun h => mx (supD (stW web) (TW web) j h t) (TW web y h)) = rowL fun h => supD (stW web) (TW web) j h (t + 1) := rowL_congr fun h => by rw [hnx, if_pos es]
        rw [hrow]
        refine ⟨fun ed => ?_, fun ed => ?_⟩
        · have ne : hdW web y ≠ hdW web j := fun q => by rw [q] at ed; simp at ed
          refine apd_wp (Nat.le_trans (frs_len t) (by omega)) ⟨rfl, ?_⟩
          rw [hfx, if_pos ⟨e', es, ne⟩]
        · have eq : hdW web y = hdW web j := by
            have := ed
            simp at this
            omega
          refine ⟨rfl, ?_⟩
          rw [hfx, if_neg fun q => q.2.2 eq]
      · refine ⟨rowL_congr fun h => ?_, ?_⟩
        · rw [hnx, if_neg (by rw [es]; exact Bool.false_ne_true)]
        · rw [hfx, if_neg fun q => by rw [es] at q; exact Bool.false_ne_true q.2.1]
    · have e' : ¬ supD (stW web) (TW web) j (hdW web y) t ≤ cW web y := of_decide_eq_false (hge ▸ e)
      refine ⟨fun q => (nomatch q), fun _ => ⟨rowL_congr fun h => ?_, ?_⟩⟩
      · have q := skip (hd := hdW web) (st := stW web) (x := j) (t := t) hst_W htj (by rw [← hy]; exact Int.not_le.mp e') h
        exact q.symm
      · rw [hfx, if_neg fun q => e' q.1]
  · rintro ⟨known, firsts⟩ ⟨q1, q2⟩
    dsimp only at q1 q2
    subst q1 q2
    have h8 := hdW_8 hw hj
    simp only [run_bind, run_rt, run_opt, nm_at hw hj, Option.some.injEq, exists_eq_left']
    refine sti_wp (by omega) (by rw [rowL_len]; omega) ?_
    rw [hlen, show ((hdW web j : Nat) : Int).toNat = hdW web j from rfl, rowL_set h8]
    have hrow : (rowL fun x => if x = hdW web j then cW web j + 1 else supD (stW web) (TW web) j x j) = rowL (TW web j) := rowL_congr fun h => by
      rw [show TW web j h = TT (hdW web) (stW web) j h from rfl, TT_eq]
      split
      · rfl
      · exact supD_full
    rw [hrow]
    exact k
end
end M

/-! # the notes of a web -/
namespace M
open PySem L2 Z
abbrev Note := P4 Int Int Int Int
section
variable {web : List (P3 Int Str Int)} {x y i j n : Nat}
def keepB (web : List (P3 Int Str Int)) (j i : Nat) : Bool := decide (supD (stW web) (TW web) j (hdW web i) (j - 1 - i) ≤ cW web i ∧ stW web i j = true ∧ hdW web i ≠ hdW web j)
def keepZ (web : List (P3 Int Str Int)) (j : Nat) (i : Int) : Bool := keepB web j i.toNat
def ntW (web : List (P3 Int Str Int)) (j : Nat) (i : Int) : Note := ⟨(hdW web i.toNat : Int), cW web i.toNat, (hdW web j : Int), cW web j⟩
theorem rng0_drop (h : i < j) : (rng 0 (j : Int)).drop i = (i : Int) :: (rng 0 (j : Int)).drop (i + 1) := by
  have e : (rng 0 (j : Int))[i]? = some (i : Int) := by
    unfold rng
    rw [List.getElem?_map, List.getElem?_range (by omega)]
    simp
  exact drop_cons e
theorem frs_perm : ∀ t, t ≤ j → (frs web j t).Perm (((rng 0 (j : Int)).drop (j - t)).filter (keepZ web j))
  | 0, _ => by
    have e : (rng 0 (j : Int)).drop (j - 0) = [] := List.drop_eq_nil_of_le (by rw [rng_len]; omega)
    rw [e]
    exact List.Perm.refl _
  | t + 1, ht => by
    have ih := frs_perm t (by omega)
    have e : j - (t + 1) = j - 1 - t := by omega
    rw [e, rng0_drop (by omega), List.filter_cons, show j - 1 - t + 1 = j - t by omega]
    have e2 : j - 1 - (j - 1 - t) = t := by omega
    have ek : keepZ web j ((j - 1 - t : Nat) : Int) = decide (supD (stW web) (TW web) j (hdW web (j - 1 - t)) t ≤ cW web (j - 1 - t) ∧ stW web (j - 1 - t) j = true ∧ hdW web (j - 1 - t) ≠ hdW web j) := by
      unfold keepZ keepB
      rw [Int.toNat_natCast, e2]
    rw [ek]
    show (if supD (stW web) (TW web) j (hdW web (j - 1 - t)) t ≤ cW web (j - 1 - t) ∧ stW web (j - 1 - t) j = true ∧ hdW web (j - 1 - t) ≠ hdW web j then frs web j t ++ [((j - 1 - t : Nat) : Int)] else frs web j t).Perm _
    by_cases c : supD (stW web) (TW web) j (hdW web (j - 1 - t)) t ≤ cW web (j - 1 - t) ∧ stW web (j - 1 - t) j = true ∧ hdW web (j - 1 - t) ≠ hdW web j
    · rw [if_pos c, if_pos (decide_eq_true c)]
      exact (List.perm_append_singleton _ _).trans (ih.cons _)
    · rw [if_neg c, if_neg (by rw [decide_eq_false c]; exact Bool.false_ne_true)]
      exact ih
theorem frs_all : (frs web j j).Perm ((rng 0 (j : Int)).filter (keepZ web j)) := by
  have q := frs_perm (web := web) (j := j) j (Nat.le_refl _)
  rwa [Nat.sub_self, List.drop_zero] at q
def DP (web : List (P3 Int Str Int)) : Nat → List Note
  | 0 => []
  | j + 1 => DP web j ++ (frs web j j).map (ntW web j)
def LP (web : List (P3 Int Str Int)) : Nat → List (Int × Int)
  | 0 => []
  | j + 1 => LP web j ++ ((rng 0 (j : Int)).filter (keepZ web j)).map fun i => (i, (j : Int))
def namW (web : List (P3 Int Str Int)) (p : Int × Int) : Note := ntW web p.2.toNat p.1
theorem DP_perm : ∀ n, (DP web n).Perm ((LP web n).map (namW web))
  | 0 => List.Perm.refl _
  | j + 1 => by
    show (DP web j ++ (frs web j j).map (ntW web j)).Perm ((LP web j ++ ((rng 0 (j : Int)).filter (keepZ web j)).map fun i => (i, (j : Int))).map (namW web))
    rw [List.map_append, List.map_map]
    exact (DP_perm j).append (frs_all.map _)
theorem DP_len : ∀ n, n ≤ 300 → (DP web n).length ≤ n * 300
  | 0, _ => Nat.le_refl _
  | j + 1, h => by
    have q := DP_len j (by omega)
    have q2 := frs_len (web := web) (x := j) j
    show (DP web j ++ (frs web j j).map (ntW web j)).length ≤ _
    rw [List.length_append, List.length_map]
    omega
theorem LP_len (h : n ≤ 300) : (LP web n).length ≤ n * 300 := by
  have q := (DP_perm (web := web) n).length_eq
  rw [List.length_map] at q
  rw [← q]
  exact DP_len n h
theorem LP_mem : ∀ n, ∀ p ∈ LP web n, ∃ i j : Nat, p = ((i : Int), (j : Int)) ∧ i < j ∧ j < n
  | 0, p, h => nomatch h
  | m + 1, p, h => by
    rcases List.mem_append.mp h with h | h
    · obtain ⟨i, j, e, h1, h2⟩ := LP_mem m p h
      exact ⟨i, j, e, h1, by omega⟩
    · obtain ⟨z, hz, rfl⟩ := List.mem_map.mp h
      obtain ⟨q, hq⟩ := List.mem_iff_getElem?.mp (List.mem_filter.mp hz).1
      obtain ⟨hl, rfl⟩ := rng_get hq
      exact ⟨q, m, by simp, by omega, by omega⟩
theorem frs_mem (h : y ≤ j) {z : Int} (hz : z ∈ frs web j y) : ∃ i : Nat, z = (i : Int) ∧ i < j := by
  have q := (frs_perm (web := web) y h).mem_iff.mp hz
  obtain ⟨p, hp⟩ := List.mem_iff_getElem?.mp (List.mem_of_mem_drop (List.mem_filter.mp q).1)
  obtain ⟨hl, rfl⟩ := rng_get hp
  exact ⟨p, by omega, by omega⟩
theorem nt_wp {Φ : Note → Prop} (hw : ∀ t ∈ web, ToOk t) (hi : i < web.length) (hj : j < web.length) (k : Φ (ntW web j (i : Int))) :
    (W.bind (W.opt (atI (nmS web) (i : Int))) fun t => W.bind (W.opt (atI (nmS web) (j : Int))) fun u => W.ret (⟨t.1, t.2, u.1, u.2⟩ : Note)).run Φ := by
  simp only [run_bind, run_opt, run_rt, nm_at hw hi, nm_at hw hj, Option.some.injEq, exists_eq_left']
  exact k
theorem notesP_wp {Φ : List Note → Prop} (hw : ∀ t ∈ web, ToOk t) (hl : web.length ≤ 300) (k : Φ (srtK (DP web web.length))) : (m_notes web).run Φ := by
  unfold m_notes
  simp only [run_bind, run_rt, run_guard]
  refine names_wp hw (by omega) ⟨⟨by decide, by decide, by omega, by omega⟩, ?_⟩
  have hlen : (rng 0 (web.length : Int)).length = web.length := by rw [rng_len]; omega
  refine forL_wp (fun i s => s.1 = tabL web i ∧ s.2 = DP web i) ⟨rfl, rfl⟩ ?_ ?_
  · rintro j z ⟨table, found⟩ hx ⟨q1, q2⟩
    dsimp only at q1 q2
    subst q1 q2
    obtain ⟨hi, rfl⟩ := rng_get hx
    have hj : j < web.length := by omega
    rw [Int.zero_add]
    unfold m_notes_L1
    simp only [run_bind, run_rt]
    refine looked_wp hw (by omega) hj ?_
    refine apd_wp (by rw [tab_len]; omega) ?_
    refine compG_wp (fun _ => true) (ntW web j) (small (Nat.le_trans (frs_len j) (by omega))) (fun _ _ Ψ h => h) (fun x hxm _ Ψ h => ?_) ?_
    · obtain ⟨i, rfl, hij⟩ := frs_mem (Nat.le_refl _) hxm
      exact nt_wp hw (by omega) hj h
    · rw [List.filter_eq_self.mpr fun _ _ => rfl]
      refine ⟨small ?_, tab_snoc.symm, rfl⟩
      have q := DP_len (web := web) j (by omega)
      have q2 := frs_len (web := web) (x := j) j
      show (DP web j).length + ((frs web j j).map (ntW web j)).length ≤ 100000
      rw [List.length_map]
      omega
  · rintro ⟨table, found⟩ ⟨q1, q2⟩
    dsimp only at q1 q2
    subst q1 q2
    rw [hlen]
    exact k
theorem keep_iff (hij : i < j) : keepB web j i = true ↔ stW web i j = true ∧ hdW web i ≠ hdW web j ∧ ∀ y, i < y → y < j → stW web y j = true → TW web y (hdW web i) ≤ cW web i := by
  unfold keepB
  rw [decide_eq_true_eq]
  constructor
  · rintro ⟨h1, h2, h3⟩
    refine ⟨h2, h3, fun y hy hyj hs => Int.le_trans (supD_ge (by omega) (by omega) hyj hs) h1⟩
  · rintro ⟨h2, h3, h1⟩
    exact ⟨supD_le (by omega) cn_nn fun y hy hyj hs => h1 y (by omega) hyj hs, h2, h3⟩
end
end M

/-! # k24: tables from notes -/
namespace M
open PySem L2 Z
section
variable {web : List Tch} {ends : List (Int × Int)} {T : List (List Int)} {S : List Int} {n j : Nat}
def ent (T : List (List Int)) (i o : Int) : Int := (T.getD i.toNat []).getD o.toNat 0
structure TOk (T : List (List Int)) (n : Nat) : Prop where
  len : T.length = n
  row : ∀ r ∈ T, r.length = 8 ∧ ∀ x ∈ r, 0 ≤ x
theorem t_at {i : Int} (hT : TOk T n) (h0 : 0 ≤ i) (h1 : i < n) : atI T i = some (T.getD i.toNat []) := by
  refine atI_get' h0 ?_
  rw [List.getD_eq_getElem?_getD, List.getElem?_eq_getElem (by rw [hT.len]; omega)]
  rfl
theorem t_mem {i : Int} (hT : TOk T n) (h0 : 0 ≤ i) (h1 : i < n) : T.getD i.toNat [] ∈ T := by
  rw [List.getD_eq_getElem?_getD, List.getElem?_eq_getElem (by rw [hT.len]; omega)]
  exact List.getElem_mem _
theorem r_at {r : List Int} {o : Int} (hr : r.length = 8) (h0 : 0 ≤ o) (h1 : o < 8) : atI r o = some (r.getD o.toNat 0) := by
  refine atI_get' h0 ?_
  rw [List.getD_eq_getElem?_getD, List.getElem?_eq_getElem (by omega)]
  rfl
theorem ent_nn {i o : Int} (hT : TOk T n) : 0 ≤ ent T i o := by
  unfold ent
  by_cases c : i.toNat < T.length
  · have hm : T.getD i.toNat [] ∈ T := by
      rw [List.getD_eq_getElem?_getD, List.getElem?_eq_getElem c]; exact List.getElem_mem _
    by_cases d : o.toNat < (T.getD i.toNat []).length
    · refine (hT.row _ hm).2 _ ?_
      rw [List.getD_eq_getElem?_getD (l := T.getD i.toNat []), List.getElem?_eq_getElem d]; exact List.getElem_mem _
    · rw [List.getD_eq_getElem?_getD (l := T.getD i.toNat []), List.getElem?_eq_none (by omega)]; exact Int.le_refl _
  · rw [List.getD_eq_getElem?_getD (l := T), List.getElem?_eq_none (by omega)]
    exact Int.le_refl _
/-- the greatest by place -/
def kn (T : List (List Int)) (S : List Int) : List Int := (rng 0 (8 : Int)).map fun o => mxD (S.map fun i => ent T i o) 0
theorem kn_len : (kn T S).length = 8 := by unfold kn; rw [List.length_map, rng_len]; rfl
theorem mx_nn {l : List Int} (h : ∀ x ∈ l, 0 ≤ x) : 0 ≤ mxD l 0 := by
  rcases mxD_cases l 0 with ⟨_, e⟩ | ⟨e, _⟩
  · rw [e]; exact Int.le_refl _
  · exact h _ e
theorem kn_nn (hT : TOk T n) : ∀ x ∈ kn T S, 0 ≤ x := by
  intro x hx
  unfold kn at hx
  obtain ⟨o, _, rfl⟩ := List.mem_map.mp hx
  refine mx_nn fun y hy => ?_
  obtain ⟨i, _, rfl⟩ := List.mem_map.mp hy
  exact ent_nn hT
theorem mx_mem {l m : List Int} (h : ∀ x, x ∈ l ↔ x ∈ m) : mxD l 0 = mxD m 0 := by
  rcases mxD_cases l 0 with ⟨a, e⟩ | ⟨a, e⟩
  · have : m = [] := List.eq_nil_iff_forall_not_mem.mpr fun x hx => by have := (h x).mpr hx; rw [a] at this; cases this
    rw [a, this]
  · rcases mxD_cases m 0 with ⟨b, f⟩ | ⟨b, f⟩
    · have := (h _).mp a; rw [b] at this; cases this
    · exact Int.le_antisymm (f _ ((h _).mp a)) (e _ ((h _).mpr b))
theorem kn_mem {S' : List Int} (h : ∀ x, x ∈ S ↔ x ∈ S') : kn T S = kn T S' := by
  unfold kn
  refine List.map_congr_left fun o _ => mx_mem fun x => ?_
  simp only [List.mem_map]
  constructor
  · rintro ⟨i, a, b⟩; exact ⟨i, (h i).mp a, b⟩
  · rintro ⟨i, a, b⟩; exact ⟨i, (h i).mpr a, b⟩
theorem mx_snoc {l : List Int} {y : Int} (hy : 0 ≤ y) : mxD (l ++ [y]) 0 = if y > mxD l 0 then y else mxD l 0 := by
  cases l with
  | nil =>
    show y = if y > 0 then y else 0
    split <;> omega
  | cons x l =>
    show (l ++ [y]).foldl _ x = _
    rw [List.foldl_append]
    show (if decide (mxD (x :: l) 0 < y) = true then y else mxD (x :: l) 0) = _
    by_cases c : mxD (x :: l) 0 < y
    · rw [if_pos (decide_eq_true c), if_pos c]
    · rw [if_neg (by rw [decide_eq_false c]; decide), if_neg c]
theorem kn_nil : kn T [] = List.replicate 8 0 := by
  unfold kn
  rfl
theorem kn_one {i : Int} (hT : TOk T n) (h0 : 0 ≤ i) (h1 : i < n) : kn T [i] = T.getD i.toNat [] := by
  have hl := (hT.row _ (t_mem hT h0 h1)).1
  have e : kn T [i] = (rng 0 (8 : Int)).map fun o => (T.getD i.toNat []).getD o.toNat 0 := rfl
  rw [e]
  generalize T.getD i.toNat [] = r at hl ⊢
  apply List.ext_getElem (by rw [List.length_map, rng_len, hl]; rfl)
  intro m h2 h3
  rw [List.getElem_map]
  have : (rng 0 (8 : Int))[m]'(by rw [List.length_map] at h2; exact h2) = (m : Int) := by
    unfold rng
    rw [List.getElem_map, List.getElem_range]
    omega
  rw [this]
  show r.getD (m : Int).toNat 0 = r[m]
  rw [Int.toNat_natCast, List.getD_eq_getElem?_getD, List.getElem?_eq_getElem h3]
  rfl
theorem kn_snoc {i : Int} (hT : TOk T n) (h0 : 0 ≤ i) (h1 : i < n) : (List.zip (kn T S) (T.getD i.toNat [])).map (fun a => if a.2 > a.1 then a.2 else a.1) = kn T (S ++ [i]) := by
  have hk := kn_one hT h0 h1
  rw [← hk]
  unfold kn
  rw [List.zip_map', List.map_map]
  refine List.map_congr_left fun o _ => ?_
  show (if mxD ([i].map fun i => ent T i o) 0 > mxD (S.map fun i => ent T i o) 0 then mxD ([i].map fun i => ent T i o) 0 else mxD (S.map fun i => ent T i o) 0) = _
  rw [List.map_append]
  exact (mx_snoc (ent_nn hT)).symm
/-- the ends that stand at a place -/
def fsj (ends : List (Int × Int)) (j : Nat) : List Int := (ends.filter fun p => decide (p.2 = (j : Int))).map (·.1)
def pvl (web : List Tch) (j : Nat) : List Int := match li web (gW web j).a j with | none => [] | some i => [(i : Int)]
def rowN (web : List Tch) (ends : List (Int × Int)) (T : List (List Int)) (j : Nat) : List Int := (kn T (fsj ends j ++ pvl web j)).set (gW web j).a.toNat ((nmN web j).2 + 1)
def Tb (web : List Tch) (ends : List (Int × Int)) : Nat → List (List Int)
  | 0 => []
  | t + 1 => Tb web ends t ++ [rowN web ends (Tb web ends t) t]
theorem Tb_ok : ∀ t, TOk (Tb web ends t) t
  | 0 => ⟨rfl, by simp [Tb]⟩
  | t + 1 => by
    have ih := Tb_ok t
    refine ⟨by simp [Tb, ih.len], fun r hr => ?_⟩
    rw [Tb] at hr
    rcases List.mem_append.mp hr with q | q
    · exact ih.row r q
    · rw [List.mem_singleton.mp q]
      refine ⟨by unfold rowN; rw [List.length_set, kn_len], fun x hx => ?_⟩
      rcases List.mem_or_eq_of_mem_set hx with z | z
      · exact kn_nn ih x z
      · rw [z]; unfold nmN; dsimp only; omega
structure PrOk (web : List Tch) (p : Int × Int) : Prop where
  a0 : 0 ≤ p.1
  ab : p.1 < p.2
  b1 : p.2 < web.length
  ne : (gW web p.1.toNat).a ≠ (gW web p.2.toNat).a
theorem hand_ok (hw : ∀ t ∈ web, ToOk t) (hj : j < web.length) : 0 ≤ (gW web j).a ∧ (gW web j).a < 8 := by
  have ht := hw _ (List.mem_of_getElem? (gW_get hj))
  exact ⟨ht.h0, ht.h8⟩
theorem fsj_ok (he : ∀ p ∈ ends, PrOk web p) : ∀ i ∈ fsj ends j, 0 ≤ i ∧ i < j := by
  intro i hi
  unfold fsj at hi
  obtain ⟨p, hp, rfl⟩ := List.mem_map.mp hi
  obtain ⟨h1, h2⟩ := List.mem_filter.mp hp
  have := he p h1
  rw [decide_eq_true_eq] at h2
  exact ⟨this.a0, by have := this.ab; omega⟩
theorem pvl_ok (hj : j ≤ web.length) : ∀ i ∈ pvl web j, 0 ≤ i ∧ i < j := by
  intro i hi
  unfold pvl at hi
  split at hi
  · cases hi
  · rename_i q e
    rw [List.mem_singleton.mp hi]
    have := (li_some hj e).1
    omega
theorem rep8 : repG ([(0 : Int)] : List Int) (8 : Int) ∧ repL ([(0 : Int)] : List Int) (8 : Int) = List.replicate 8 0 := ⟨⟨by decide, by decide, by decide⟩, rfl⟩
theorem known_wp {Φ : List (List Int) → Prop} (hw : ∀ t ∈ web, ToOk t) (hl : web.length ≤ 300) (he : ∀ p ∈ ends, PrOk web p) (k : Φ (Tb web ends web.length)) : (m_known_by web ends).run Φ := by
  unfold m_known_by
  simp only [run_bind, run_rt, run_guard]
  refine names_wp hw (by omega) ⟨⟨by decide, by decide, by omega, by omega⟩, ?_⟩
  refine forL_wp (fun t q => q.2 = Tb web ends t ∧ q.1.length ≤ t ∧ ∀ h, valM q.1 h = (li web h t).map fun i => (Tb web ends t).getD i []) ⟨rfl, Nat.le_refl _, fun h => rfl⟩ ?_ ?_
  · rintro t x ⟨last, T⟩ hx ⟨q1, q2, q3⟩
    dsimp only at q1 q2 q3
    subst q1
    obtain ⟨ht, rfl⟩ := rng_get hx
    have htl : t < web.length := by omega
    rw [Int.zero_add]
    have hT := Tb_ok (web := web) (ends := ends) t
    obtain ⟨h0, h8⟩ := hand_ok hw htl
    unfold m_known_by_L2
    simp only [run_bind, run_opt, run_rt, run_guard, nmS_at htl, Option.some.injEq, exists_eq_left']
    refine ⟨rep8.1, ?_⟩
    rw [rep8.2, q3]
    have e0 : ((li web (nmN web t).1 t).map fun i => (Tb web ends t).getD i []).getD (List.replicate 8 0) = kn (Tb web ends t) (pvl web t) := by
      unfold pvl
      show ((li web (gW web t).a t).map _).getD _ = _
      cases e : li web (gW web t).a t with
      | none => exact kn_nil.symm
      | some i =>
        have := (li_some (by omega) e).1
        rw [kn_one hT (by omega) (by omega)]
        rw [Int.toNat_natCast]
        rfl
    rw [e0]
    refine forL_wp (fun m s => s = kn (Tb web ends t) (pvl web t ++ fsj (ends.take m) t)) (by simp [fsj]) ?_ ?_
    · rintro m p s hp rfl
      have hpo := he p (List.mem_of_getElem? hp)
      have ef : fsj (ends.take (m + 1)) t = fsj (ends.take m) t ++ if p.2 = (t : Int) then [p.1] else [] := by
        unfold fsj
        rw [take_snocN hp, List.filter_append, List.map_append]
        congr 1
        by_cases c : p.2 = (t : Int) <;> simp [c]
      unfold m_known_by_L1
      simp only [run_bind, run_opt, run_rt, run_if, decide_eq_true_eq]
      rw [ef]
      by_cases c : p.2 = (t : Int)
      · rw [if_pos c, if_pos c]
        have hp1 : p.1 < t := by have := hpo.ab; omega
        refine ⟨_, t_at hT hpo.a0 hp1, ?_⟩
        refine compG_wp (fun _ => true) (fun a => if a.2 > a.1 then a.2 else a.1) (small (by rw [List.length_zip, kn_len]; omega)) (fun _ _ Ψ q => by exact q) (fun _ _ _ Ψ q => by exact q) ?_
        rw [List.filter_eq_self.mpr fun _ _ => rfl, kn_snoc hT hpo.a0 hp1, List.append_assoc]
      · rw [if_neg c, if_neg c, List.append_nil]
    · rintro s rfl
      rw [List.take_length]
      refine sti_wp h0 (by rw [kn_len]; exact h8) ?_
      have er : (kn (Tb web ends t) (pvl web t ++ fsj ends t)).set (nmN web t).1.toNat ((nmN web t).2 + 1) = rowN web ends (Tb web ends t) t := by
        unfold rowN
        rw [kn_mem (S' := fsj ends t ++ pvl web t) fun x => by simp only [List.mem_append]; exact Or.comm]
        rfl
      rw [er]
      refine putG_wp (by omega) (apd_wp (by rw [hT.len]; omega) ⟨rfl, Nat.le_trans putM_len (by omega), fun h => ?_⟩)
      rw [valM_put]
      show _ = (if (gW web t).a = h then some t else li web h t).map fun i => (Tb web ends (t + 1)).getD i []
      by_cases c : h = (nmN web t).1
      · rw [if_pos c, if_pos (show (gW web t).a = h from c.symm)]
        show some _ = some _
        congr 1
        rw [Tb]
        dsimp only
        rw [List.getD_eq_getElem?_getD, List.getElem?_append_right (by rw [hT.len]; exact Nat.le_refl _), hT.len, Nat.sub_self]
        rfl
      · rw [if_neg c, if_neg (fun z => c z.symm), q3]
        cases e : li web h t with
        | none => rfl
        | some i =>
          have := (li_some (by omega) e).1
          show some _ = some _
          congr 1
          rw [Tb]
          dsimp only
          rw [List.getD_eq_getElem?_getD, List.getD_eq_getElem?_getD, List.getElem?_append_left (by rw [hT.len]; omega)]
  · rintro ⟨last, T⟩ ⟨q1, _, _⟩
    rw [rng_len, Int.sub_zero, Int.toNat_natCast] at q1
    dsimp only at q1 ⊢
    rw [q1]
    exact k
end
end M
/-! # enough -/
namespace M
open PySem L2 Z
section
variable {web : List Tch} {ends : List (Int × Int)} {T : List (List Int)} {n j : Nat}
def ntN (web : List Tch) (p : Int × Int) : P4 Int Int Int Int := ⟨(nmN web p.1.toNat).1, (nmN web p.1.toNat).2, (nmN web p.2.toNat).1, (nmN web p.2.toNat).2⟩
theorem ends_wp {m : Dc (Int × Int) Int} {p : Int × Int} {Φ : Int × Int → Prop} (hm : ∀ i, i < web.length → valM m (nmN web i) = some (i : Int)) (hp : PrOk web p) (k : Φ p) : (m_ends_of m (ntN web p)).run Φ := by
  obtain ⟨a, b⟩ := p
  obtain ⟨a0, ab, b1, ne⟩ := hp
  dsimp only at a0 ab b1 ne
  obtain ⟨i, rfl⟩ : ∃ i : Nat, a = i := ⟨a.toNat, by omega⟩
  obtain ⟨j, rfl⟩ : ∃ j : Nat, b = j := ⟨b.toNat, by omega⟩
  have e1 : valM m ((ntN web ((i : Int), (j : Int))).a, (ntN web ((i : Int), (j : Int))).b) = some (i : Int) := hm i (by omega)
  have e2 : valM m ((ntN web ((i : Int), (j : Int))).c, (ntN web ((i : Int), (j : Int))).d) = some (j : Int) := hm j (by omega)
  unfold m_ends_of
  simp only [run_bind, run_rt, run_if, run_guard, run_opt, e1, e2, decide_eq_true_eq]
  rw [if_neg (show ¬ (ntN web ((i : Int), (j : Int))).a = (ntN web ((i : Int), (j : Int))).c from ne)]
  refine ⟨nn, ?_⟩
  rw [if_neg (by simp)]
  refine ⟨nn, ?_⟩
  rw [if_neg (by simp)]
  refine ⟨_, rfl, _, rfl, ?_⟩
  rw [if_neg (by omega)]
  exact ⟨_, rfl, _, rfl, k⟩
theorem okC {x : Int × Int} {l : List (Int × Int)} : okD x ∧ okD l := ⟨okD_pl _, okD_pl _⟩
/-- a pair of touches that meet, the earlier one not known -/
def lack (web : List Tch) (T : List (List Int)) (i j : Int) : Bool := meetS (gW web i.toNat) (gW web j.toNat) && decide ((nmN web i.toNat).2 ≥ ent T j (gW web i.toNat).a)
def anyLack (web : List Tch) (T : List (List Int)) : Bool := (rng 0 (web.length : Int)).any fun j => (rng 0 j).any fun i => lack web T i j
theorem scan_wp {f : Int → Int → W (Ctl (Ctl Bool Unit) Unit)} {Φ : Bool → Prop} (hl : web.length ≤ 300)
    (hf : ∀ i j : Nat, i < j → j < web.length → ∀ Ψ : Ctl (Ctl Bool Unit) Unit → Prop, Ψ (if lack web T i j = true then .rt (.rt false) else .nx ()) → (f i j).run Ψ)
    (k : Φ (!anyLack web T)) : (W.bind (W.forC (rng 0 (web.length : Int)) () (fun a _ => W.guard (rngOk 0 a) (W.bind (W.forC (rng 0 a) () (fun b _ => f b a)) fun c => W.after c (fun _ => W.ret (Ctl.nx ()))))) fun c => W.after c (fun _ => W.ret true)).run Φ := by
  rw [run_bind]
  refine forC_any (fun j => (rng 0 j).any fun i => lack web T i j) false (fun x hx Ψ h => ?_) ?_
  · obtain ⟨h1, h2⟩ := rng_mem.mp hx
    obtain ⟨j, rfl⟩ : ∃ j : Nat, x = j := ⟨x.toNat, by omega⟩
    rw [run_guard, run_bind]
    refine ⟨⟨by decide, by decide, by omega, by omega⟩, ?_⟩
    refine forC_any (fun i => lack web T i j) (Ctl.rt false) (fun y hy Ψ' h' => ?_) ?_
    · obtain ⟨z1, z2⟩ := rng_mem.mp hy
      obtain ⟨i, rfl⟩ : ∃ i : Nat, y = i := ⟨y.toNat, by omega⟩
      exact hf i j (by omega) (by omega) Ψ' h'
    · by_cases d : ((rng 0 (j : Int)).any fun i => lack web T i j) = true
      · rw [if_pos d] at h ⊢; exact h
      · rw [if_neg d] at h ⊢; exact h
  · by_cases d : anyLack web T = true
    · rw [d] at k
      unfold anyLack at d
      rw [if_pos d]; exact k
    · rw [Bool.not_eq_true] at d
      rw [d] at k
      unfold anyLack at d
      rw [if_neg (by rw [d]; decide)]; exact k
theorem enough_wp {Φ : Bool → Prop} (hw : ∀ t ∈ web, ToOk t) (hl : web.length ≤ 300) (he : ∀ p ∈ ends, PrOk web p) (hel : ends.length ≤ 500000) (k : Φ (!anyLack web (Tb web ends web.length))) : (m_enough web (ends.map (ntN web))).run Φ := by
  unfold m_enough
  simp only [run_bind, run_rt, run_guard]
  refine places_wp hw (by omega) fun m hm => ?_
  refine compG_wp (fun _ => true) (fun t => ((valM m (t.a, t.b)).getD 0, (valM m (t.c, t.d)).getD 0)) (isz (by rw [List.length_map]; omega)) (fun _ _ Ψ q => by exact q) (fun x hx _ Ψ q => ?_) ?_
  · obtain ⟨p, hp, rfl⟩ := List.mem_map.mp hx
    have h := he p hp
    have e1 : valM m ((ntN web p).a, (ntN web p).b) = some (p.1.toNat : Int) := hm _ (by have := h.a0; have := h.ab; have := h.b1; omega)
    have e2 : valM m ((ntN web p).c, (ntN web p).d) = some (p.2.toNat : Int) := hm _ (by have := h.a0; have := h.ab; have := h.b1; omega)
    rw [e1, e2] at q
    have e3 : ((some (p.1.toNat : Int)).getD 0, (some (p.2.toNat : Int)).getD 0) = p := by
      have := h.a0
      have := h.ab
      obtain ⟨a, b⟩ := p
      dsimp only [Option.getD_some] at *
      congr 1 <;> omega
    rw [e3] at q
    exact ends_wp hm h q
  · rw [List.filter_eq_self.mpr fun _ _ => rfl, List.map_map]
    have e : ends.map ((fun t : P4 Int Int Int Int => ((valM m (t.a, t.b)).getD 0, (valM m (t.c, t.d)).getD 0)) ∘ ntN web) = ends := by
      rw [List.map_congr_left (g := id) ?_, List.map_id]
      intro p hp
      have h := he p hp
      have e1 : valM m ((ntN web p).a, (ntN web p).b) = some (p.1.toNat : Int) := hm _ (by have := h.a0; have := h.ab; have := h.b1; omega)
      have e2 : valM m ((ntN web p).c, (ntN web p).d) = some (p.2.toNat : Int) := hm _ (by have := h.a0; have := h.ab; have := h.b1; omega)
      show ((valM m ((ntN web p).a, (ntN web p).b)).getD 0, (valM m ((ntN web p).c, (ntN web p).d)).getD 0) = p
      rw [e1, e2]
      have := h.a0
      have := h.ab
      obtain ⟨a, b⟩ := p
      dsimp only [Option.getD_some] at *
      congr 1 <;> omega
    rw [e]
    refine known_wp hw hl he (names_wp hw (by omega) ?_)
    refine ⟨⟨by decide, by decide, by omega, by omega⟩, ?_⟩
    have S := scan_wp (web := web) (T := Tb web ends web.length) (f := fun i j => m_enough_L1 web (Tb web ends web.length) (nmS web) j i) (Φ := Φ) hl (fun i j hij hj Ψ h => ?_) k
    · rw [run_bind] at S
      exact S
    · have hT := Tb_ok (web := web) (ends := ends) web.length
      obtain ⟨h0, h8⟩ := hand_ok hw (show i < web.length by omega)
      unfold m_enough_L1
      simp only [run_bind, run_opt, run_rt, run_if, gW_at hj, gW_at (show i < web.length by omega), nmS_at (show i < web.length by omega), Option.some.injEq, exists_eq_left']
      refine meets_wp ?_
      by_cases c : meetS (gW web i) (gW web j) = true
      · rw [if_pos c]
        refine ⟨_, t_at hT (i := (j : Int)) (by omega) (by omega), _, r_at (hT.row _ (t_mem hT (by omega) (by omega))).1 h0 h8, ?_⟩
        have e : lack web (Tb web ends web.length) i j = decide ((nmN web i).2 ≥ ent (Tb web ends web.length) (j : Int) (gW web i).a) := by
          unfold lack
          rw [show meetS (gW web (i : Int).toNat) (gW web (j : Int).toNat) = true from c, Bool.true_and]
          rfl
        rw [e] at h
        show if decide ((nmN web i).2 ≥ ent (Tb web ends web.length) (j : Int) (gW web i).a) = true then _ else _
        split
        · rename_i z; rw [if_pos z] at h; exact h
        · rename_i z; rw [if_neg z] at h; exact h
      · rw [if_neg c]
        rw [Bool.not_eq_true] at c
        have e : lack web (Tb web ends web.length) i j = false := by
          unfold lack
          rw [show meetS (gW web (i : Int).toNat) (gW web (j : Int).toNat) = false from c, Bool.false_and]
        rw [e, if_neg Bool.false_ne_true] at h
        simpa using h
end
end M

/-! # two orders that part where a note is left out -/
namespace M
open PySem L2 Z
section
variable {web : List (P3 Int Str Int)} {x y i j a b p q n : Nat}
/-- p must come ahead of x, or is x -/
def anc (web : List (P3 Int Str Int)) (p x : Nat) : Prop := cW web p < TW web x (hdW web p)
theorem anc_self : anc web x x := by
  unfold anc
  have : TW web x (hdW web x) = cW web x + 1 := TT_own
  omega
theorem anc_mono (h : anc web p x) : p ≤ x ∧ ∀ h, TW web p h ≤ TW web x h := TT_trans (hd := hdW web) (st := stW web) hst_W x p h
theorem anc_step (hy : y < x) (hs : stW web y x = true) : anc web y x := by
  unfold anc
  have h1 : TW web y (hdW web y) ≤ TW web x (hdW web y) := TT_step hy hs
  have h2 : TW web y (hdW web y) = cW web y + 1 := TT_own
  omega
theorem anc_trans (h1 : anc web p q) (h2 : anc web q x) : anc web p x := by
  have h3 := (anc_mono h2).2 (hdW web p)
  unfold anc at h1 ⊢
  omega
/-- a note: the step has no way but itself -/
structure Least (web : List (P3 Int Str Int)) (i j : Nat) : Prop where
  lt : i < j
  st : stW web i j = true
  ne : hdW web i ≠ hdW web j
  no : ∀ y, i < y → y < j → stW web y j = true → TW web y (hdW web i) ≤ cW web i
theorem Least.mid (h : Least web i j) (h1 : i < b) (h2 : b < j) (ha : anc web i b) (hb : anc web b j) : False := by
  by_cases e : hdW web b = hdW web j
  · have := h.no b h1 h2 (hst_W b j e)
    unfold anc at ha
    omega
  · have hb' : cW web b < supR (stW web) (TW web) j (hdW web b) j := by
      rw [← TT_oth (hd := hdW web) (st := stW web) e]
      exact hb
    obtain ⟨y, hy, hs, hl⟩ := supR_gt cn_nn hb'
    have hby := anc_mono (web := web) (p := b) (x := y) hl
    have := h.no y (by omega) hy hs
    have := hby.2 (hdW web i)
    unfold anc at ha
    omega
/-- what must come ahead of one of two -/
def ahB (web : List (P3 Int Str Int)) (i j : Nat) (z : Int) : Bool := decide (cW web z.toNat < TW web i (hdW web z.toNat)) || decide (cW web z.toNat < TW web j (hdW web z.toNat))
def neB (i j : Nat) (z : Int) : Bool := (!decide (z = (i : Int))) && (!decide (z = (j : Int)))
def AH (web : List (P3 Int Str Int)) (i j : Nat) (n : Nat) : List Int := (rng 0 (n : Int)).filter fun z => neB i j z && ahB web i j z
def BH (web : List (P3 Int Str Int)) (i j : Nat) (n : Nat) : List Int := (rng 0 (n : Int)).filter fun z => neB i j z && !ahB web i j z
def Or1 (web : List (P3 Int Str Int)) (i j : Nat) (n : Nat) : List Int := AH web i j n ++ [(i : Int), (j : Int)] ++ BH web i j n
def Or2 (web : List (P3 Int Str Int)) (i j : Nat) (n : Nat) : List Int := AH web i j n ++ [(j : Int), (i : Int)] ++ BH web i j n
theorem rng_in {z : Int} : z ∈ rng 0 (n : Int) ↔ ∃ p : Nat, z = (p : Int) ∧ p < n := by
  rw [rng_mem]
  constructor
  · rintro ⟨h1, h2⟩
    exact ⟨z.toNat, by omega, by omega⟩
  · rintro ⟨p, rfl, h⟩
    omega
theorem mem_AH : (p : Int) ∈ AH web i j n ↔ p < n ∧ p ≠ i ∧ p ≠ j ∧ (anc web p i ∨ anc web p j) := by
  unfold AH neB ahB anc
  rw [List.mem_filter, rng_mem]
  simp only [Bool.and_eq_true, Bool.or_eq_true, decide_eq_true_eq, Bool.not_eq_true', decide_eq_false_iff_not, Int.toNat_natCast]
  constructor
  · rintro ⟨⟨_, h1⟩, ⟨h2, h3⟩, h4⟩
    exact ⟨by omega, by omega, by omega, h4⟩
  · rintro ⟨h1, h2, h3, h4⟩
    exact ⟨by omega, ⟨by omega, by omega⟩, h4⟩
theorem mem_BH : (p : Int) ∈ BH web i j n ↔ p < n ∧ p ≠ i ∧ p ≠ j ∧ ¬ (anc web p i ∨ anc web p j) := by
  unfold BH neB ahB anc
  rw [List.mem_filter, rng_mem]
  simp only [Bool.and_eq_true, Bool.or_eq_true, decide_eq_true_eq, Bool.not_eq_true', decide_eq_false_iff_not, Int.toNat_natCast, Bool.or_eq_false_iff]
  constructor
  · rintro ⟨⟨_, h1⟩, ⟨h2, h3⟩, h4⟩
    exact ⟨by omega, by omega, by omega, fun h => h.elim h4.1 h4.2⟩
  · rintro ⟨h1, h2, h3, h4⟩
    exact ⟨by omega, ⟨by omega, by omega⟩, fun h => h4 (.inl h), fun h => h4 (.inr h)⟩
theorem rng_pair (hab : a < b) (hb : b < n) : [(a : Int), (b : Int)].Sublist (rng 0 (n : Int)) := by
  have e : rng 0 (n : Int) = (rng 0 (n : Int)).take b ++ (rng 0 (n : Int)).drop b := (List.take_append_drop _ _).symm
  rw [e, rng0_drop hb]
  refine List.Sublist.append (l₁ := [(a : Int)]) (r₁ := [(b : Int)]) ?_ ?_
  · rw [List.singleton_sublist, List.mem_take_iff_getElem]
    refine ⟨a, by rw [rng_len]; omega, ?_⟩
    unfold rng
    simp
  · exact List.Sublist.cons₂ _ (List.nil_sublist _)
theorem sub_filter {f : Int → Bool} (hab : a < b) (hb : b < n) (ha : f a = true) (hb' : f b = true) : [(a : Int), (b : Int)].Sublist ((rng 0 (n : Int)).filter f) := by
  have := (rng_pair hab hb).filter f
  rw [List.filter_cons, if_pos ha, List.filter_cons, if_pos hb'] at this
  exact this
theorem AH_pair (hab : a < b) (ha : (a : Int) ∈ AH web i j n) (hb : (b : Int) ∈ AH web i j n) : [(a : Int), (b : Int)].Sublist (AH web i j n) :=
  sub_filter hab (mem_AH.mp hb).1 (List.mem_filter.mp ha).2 (List.mem_filter.mp hb).2
theorem BH_pair (hab : a < b) (ha : (a : Int) ∈ BH web i j n) (hb : (b : Int) ∈ BH web i j n) : [(a : Int), (b : Int)].Sublist (BH web i j n) :=
  sub_filter hab (mem_BH.mp hb).1 (List.mem_filter.mp ha).2 (List.mem_filter.mp hb).2
theorem sub1 {l : List Int} {z : Int} (h : z ∈ l) : [z].Sublist l := List.singleton_sublist.mpr h
theorem sub_app {l m : List Int} {y z : Int} (h1 : y ∈ l) (h2 : z ∈ m) : [y, z].Sublist (l ++ m) := List.Sublist.append (l₁ := [y]) (r₁ := [z]) (sub1 h1) (sub1 h2)
/-- each step but the note's own is kept by the two orders -/
theorem kept (h : Least web i j) (hj : j < n) (hab : a < b) (hb : b < n) (hs : stW web a b = true) (hne : ¬ (a = i ∧ b = j)) {u v : Int} (huv : (u = i ∧ v = j) ∨ (u = j ∧ v = i)) :
    [(a : Int), (b : Int)].Sublist (AH web i j n ++ [u, v] ++ BH web i j n) := by
  have hij := h.lt
  have sab := anc_step hab hs
  have ui : (i : Int) ∈ [u, v] := by rcases huv with ⟨rfl, rfl⟩ | ⟨rfl, rfl⟩ <;> simp
  have uj : (j : Int) ∈ [u, v] := by rcases huv with ⟨rfl, rfl⟩ | ⟨rfl, rfl⟩ <;> simp
  -- ahead of the note
  have up : ∀ {p q : Nat}, p < q → q < n → anc web p q → (q = i ∨ q = j ∨ (q : Int) ∈ AH web i j n) → ¬ (p = i ∧ q = j) → (p : Int) ∈ AH web i j n := by
    intro p q hpq hq han hc hn
    have toj : anc web q i ∨ anc web q j := by
      rcases hc with rfl | rfl | c
      · exact .inl anc_self
      · exact .inr anc_self
      · exact (mem_AH.mp c).2.2.2
    have pe : anc web p i ∨ anc web p j := toj.imp (fun c => anc_trans han c) (fun c => anc_trans han c)
    refine mem_AH.mpr ⟨by omega, fun e => ?_, fun e => ?_, pe⟩
    · subst e
      rcases toj with c | c
      · have := (anc_mono c).1; omega
      · have hqj := (anc_mono c).1
        by_cases e : q = j
        · exact hn ⟨rfl, e⟩
        · exact h.mid hpq (by omega) han c
    · subst e
      rcases toj with c | c
      · have := (anc_mono c).1; omega
      · have := (anc_mono c).1; omega
  by_cases cb : (b : Int) ∈ AH web i j n
  · have ca := up hab hb sab (.inr (.inr cb)) hne
    exact ((AH_pair hab ca cb).trans (List.sublist_append_left _ _)).trans (List.sublist_append_left _ _)
  · by_cases ci : b = i
    · subst ci
      have ca := up hab hb sab (.inl rfl) hne
      exact (sub_app ca ui).trans (List.sublist_append_left _ _)
    · by_cases cj : b = j
      · subst cj
        have ca := up hab hb sab (.inr (.inl rfl)) hne
        exact (sub_app ca uj).trans (List.sublist_append_left _ _)
      · have bB : (b : Int) ∈ BH web i j n := by
          refine mem_BH.mpr ⟨hb, ci, cj, fun c => cb (mem_AH.mpr ⟨hb, ci, cj, c⟩)⟩
        by_cases ca : (a : Int) ∈ BH web i j n
        · exact (BH_pair hab ca bB).trans (List.sublist_append_right _ _)
        · refine sub_app ?_ bB
          by_cases ai : a = i
          · subst ai; exact List.mem_append_right _ ui
          · by_cases aj : a = j
            · subst aj; exact List.mem_append_right _ uj
            · refine List.mem_append_left _ (mem_AH.mpr ⟨by omega, ai, aj, ?_⟩)
              apply Classical.byContradiction
              intro c
              exact ca (mem_BH.mpr ⟨by omega, ai, aj, c⟩)
theorem rng_nd : (rng 0 (n : Int)).Nodup := (rng_pw 0 (n : Int)).imp fun h => by omega
theorem or_nd (hij : i < j) {u v : Int} (huv : (u = i ∧ v = j) ∨ (u = j ∧ v = i)) : (AH web i j n ++ [u, v] ++ BH web i j n).Nodup := by
  have huv2 : u ≠ v := by rcases huv with ⟨rfl, rfl⟩ | ⟨rfl, rfl⟩ <;> omega
  have inA : ∀ z ∈ AH web i j n, z ≠ (i : Int) ∧ z ≠ (j : Int) := fun z hz => by
    obtain ⟨p, rfl, _⟩ := rng_in.mp (List.mem_filter.mp hz).1
    have := mem_AH.mp hz
    omega
  have inB : ∀ z ∈ BH web i j n, z ≠ (i : Int) ∧ z ≠ (j : Int) ∧ z ∉ AH web i j n := fun z hz => by
    obtain ⟨p, rfl, _⟩ := rng_in.mp (List.mem_filter.mp hz).1
    have := mem_BH.mp hz
    exact ⟨by omega, by omega, fun c => this.2.2.2 (mem_AH.mp c).2.2.2⟩
  refine List.nodup_append.mpr ⟨List.nodup_append.mpr ⟨rng_nd.filter _, by simp [huv2], fun x hx y hy e => ?_⟩, rng_nd.filter _, fun x hx y hy e => ?_⟩
  · subst e
    have := inA x hx
    simp only [List.mem_cons, List.not_mem_nil, or_false] at hy
    omega
  · subst e
    have h3 := inB x hy
    rcases List.mem_append.mp hx with c | c
    · exact h3.2.2 c
    · simp only [List.mem_cons, List.not_mem_nil, or_false] at c
      omega
theorem or_mem (hij : i < j) (hj : j < n) {u v : Int} (huv : (u = i ∧ v = j) ∨ (u = j ∧ v = i)) {z : Int} : z ∈ AH web i j n ++ [u, v] ++ BH web i j n ↔ z ∈ rng 0 (n : Int) := by
  simp only [List.mem_append, List.mem_cons, List.not_mem_nil, or_false]
  constructor
  · rintro ((h | h) | h)
    · exact (List.mem_filter.mp h).1
    · refine rng_in.mpr ?_
      rcases huv with ⟨rfl, rfl⟩ | ⟨rfl, rfl⟩ <;> rcases h with rfl | rfl <;> first | exact ⟨i, rfl, by omega⟩ | exact ⟨j, rfl, by omega⟩
    · exact (List.mem_filter.mp h).1
  · intro h
    obtain ⟨p, rfl, hp⟩ := rng_in.mp h
    by_cases c1 : p = i
    · subst c1; left; right; rcases huv with ⟨rfl, rfl⟩ | ⟨rfl, rfl⟩ <;> simp
    · by_cases c2 : p = j
      · subst c2; left; right; rcases huv with ⟨rfl, rfl⟩ | ⟨rfl, rfl⟩ <;> simp
      · by_cases c3 : anc web p i ∨ anc web p j
        · exact .inl (.inl (mem_AH.mpr ⟨hp, c1, c2, c3⟩))
        · exact .inr (mem_BH.mpr ⟨hp, c1, c2, c3⟩)
theorem perm_of_mem {l m : List Int} (h1 : l.Nodup) (h2 : m.Nodup) (h : ∀ z, z ∈ l ↔ z ∈ m) : l.Perm m := by
  refine List.perm_iff_count.mpr fun z => ?_
  by_cases c : z ∈ l
  · rw [List.Nodup.count h1, List.Nodup.count h2, if_pos c, if_pos ((h z).mp c)]
  · rw [List.count_eq_zero.mpr c, List.count_eq_zero.mpr (fun d => c ((h z).mpr d))]
theorem or_perm (hij : i < j) (hj : j < n) {u v : Int} (huv : (u = i ∧ v = j) ∨ (u = j ∧ v = i)) : (AH web i j n ++ [u, v] ++ BH web i j n).Perm (rng 0 (n : Int)) := perm_of_mem (or_nd hij huv) rng_nd fun _ => or_mem hij hj huv
end
/-! the program's -/
section
variable {web : List (P3 Int Str Int)} {x y i j : Nat}
theorem nmN_W (hw : ∀ t ∈ web, ToOk t) (h : x < web.length) : nmN web x = ((hdW web x : Int), cW web x) := Option.some.inj ((nmS_at h).symm.trans (nm_at hw h))
theorem LP_keep : ∀ n, ∀ p ∈ LP web n, ∃ i j : Nat, p = ((i : Int), (j : Int)) ∧ i < j ∧ j < n ∧ keepB web j i = true
  | 0, p, h => nomatch h
  | m + 1, p, h => by
    rcases List.mem_append.mp h with h | h
    · obtain ⟨i, j, e, h1, h2, h3⟩ := LP_keep m p h
      exact ⟨i, j, e, h1, by omega, h3⟩
    · obtain ⟨z, hz, rfl⟩ := List.mem_map.mp h
      obtain ⟨hz1, hz2⟩ := List.mem_filter.mp hz
      obtain ⟨q, rfl, hq⟩ := rng_in.mp hz1
      exact ⟨q, m, rfl, hq, by omega, by unfold keepZ at hz2; simpa using hz2⟩
theorem Least.of (hij : i < j) (h : keepB web j i = true) : Least web i j := by
  obtain ⟨h1, h2, h3⟩ := (keep_iff hij).mp h
  exact ⟨hij, h1, h2, h3⟩
theorem Least.pr (h : Least web i j) (hw : ∀ t ∈ web, ToOk t) (hj : j < web.length) : PrOk web ((i : Int), (j : Int)) :=
  ⟨by dsimp only; omega, by have := h.lt; dsimp only; omega, by dsimp only; omega, fun e => h.ne (by
    have hi : i < web.length := by have := h.lt; omega
    have e : (gW web i).a = (gW web j).a := e
    rw [hdW_a hw hi, hdW_a hw hj] at e
    omega)⟩
theorem inNotes (hw : ∀ t ∈ web, ToOk t) (hij : i < j) (hj : j < web.length) (hm : ((i : Int), (j : Int)) ∈ LP web web.length) : inD (ntN web ((i : Int), (j : Int))) (srtK (DP web web.length)) = true := by
  rw [inD_iff]
  refine (srtK_perm (DP web web.length)).mem_iff.mpr ((DP_perm web.length).mem_iff.mpr (List.mem_map.mpr ⟨_, hm, ?_⟩))
  have e1 := nmN_W hw (show i < web.length by omega)
  have e2 := nmN_W hw hj
  show (⟨(hdW web ((i : Int)).toNat : Int), cW web ((i : Int)).toNat, (hdW web ((j : Int)).toNat : Int), cW web ((j : Int)).toNat⟩ : Note) = ⟨(nmN web ((i : Int)).toNat).1, (nmN web ((i : Int)).toNat).2, (nmN web ((j : Int)).toNat).1, (nmN web ((j : Int)).toNat).2⟩
  simp only [Int.toNat_natCast, e1, e2]
theorem fil_snoc {f : Int → Bool} {t : Nat} : (rng 0 ((t + 1 : Nat) : Int)).filter f = (rng 0 (t : Int)).filter f ++ (if f (t : Int) = true then [(t : Int)] else []) := by
  have e : rng 0 ((t + 1 : Nat) : Int) = rng 0 (t : Int) ++ [(t : Int)] := by
    unfold rng
    have : (((t + 1 : Nat) : Int) - 0).toNat = t + 1 := by omega
    rw [this, List.range_succ, List.map_append]
    have : ((t : Int) - 0).toNat = t := by omega
    rw [this]
    simp
  rw [e, List.filter_append, List.filter_cons]
  rfl
end
end M

/-! # which notes are enough -/
namespace M
open PySem L2 Z
section
variable {web : List (P3 Int Str Int)} {ends : List (Int × Int)} {x y i j h n p : Nat} {c : Int}
/-- what x is known by the notes alone -/
def rwE (web : List (P3 Int Str Int)) (ends : List (Int × Int)) (x : Nat) : List Int := rowN web ends (Tb web ends x) x
def eE (web : List (P3 Int Str Int)) (ends : List (Int × Int)) (x h : Nat) : Int := (rwE web ends x).getD h 0
theorem Tb_get : ∀ {n x : Nat}, x < n → (Tb web ends n).getD x [] = rwE web ends x
  | n + 1, x, hx => by
    show (Tb web ends n ++ [rowN web ends (Tb web ends n) n]).getD x [] = _
    have hl := (Tb_ok (web := web) (ends := ends) n).len
    rw [List.getD_eq_getElem?_getD]
    by_cases e : x = n
    · subst e
      rw [List.getElem?_append_right (by omega), hl, Nat.sub_self]
      rfl
    · rw [List.getElem?_append_left (by omega), ← List.getD_eq_getElem?_getD]
      exact Tb_get (by omega)
theorem ent_E (hx : x < n) (o : Int) : ent (Tb web ends n) (x : Int) o = eE web ends x o.toNat := by
  unfold ent eE
  rw [Int.toNat_natCast, Tb_get hx]
theorem eE_nn : 0 ≤ eE web ends x h := by
  have := ent_nn (i := (x : Int)) (o := (h : Int)) (Tb_ok (web := web) (ends := ends) (x + 1))
  rw [ent_E (by omega), Int.toNat_natCast] at this
  exact this
theorem kn_get {T : List (List Int)} {S : List Int} (hh : h < 8) : (kn T S).getD h 0 = mxD (S.map fun i => ent T i (h : Int)) 0 := by
  unfold kn
  rw [List.getD_eq_getElem?_getD, List.getElem?_map]
  have : (rng 0 (8 : Int))[h]? = some (h : Int) := by
    unfold rng
    rw [List.getElem?_map, List.getElem?_range (by omega)]
    simp
  rw [this]
  rfl
/-- the places by which x is known at once -/
def bys (web : List (P3 Int Str Int)) (ends : List (Int × Int)) (x : Nat) : List Int := fsj ends x ++ pvl web x
theorem bys_ok (he : ∀ p ∈ ends, PrOk web p) (hx : x ≤ web.length) : ∀ z ∈ bys web ends x, ∃ y : Nat, z = (y : Int) ∧ y < x := fun z hz => by
  rcases List.mem_append.mp hz with q | q
  · have := fsj_ok he z q; exact ⟨z.toNat, by omega, by omega⟩
  · have := pvl_ok hx z q; exact ⟨z.toNat, by omega, by omega⟩
theorem eE_own (hw : ∀ t ∈ web, ToOk t) (hx : x < web.length) : eE web ends x (hdW web x) = cW web x + 1 := by
  unfold eE rwE rowN
  rw [nmN_W hw hx, List.getD_eq_getElem?_getD, List.getElem?_set]
  show (if hdW web x = hdW web x then (if hdW web x < (kn (Tb web ends x) (fsj ends x ++ pvl web x)).length then some (cW web x + 1) else none) else _).getD 0 = _
  rw [if_pos rfl, kn_len, if_pos (hdW_8 hw hx)]
  rfl
theorem eE_oth (he : ∀ p ∈ ends, PrOk web p) (hx : x < web.length) (hh : h < 8) (hne : h ≠ hdW web x) : eE web ends x h = mxD ((bys web ends x).map fun z => eE web ends z.toNat h) 0 := by
  unfold eE rwE rowN
  rw [List.getD_eq_getElem?_getD, List.getElem?_set]
  show (if hdW web x = h then (_ : Option Int) else (_ : Option Int)).getD 0 = _
  rw [if_neg (fun e => hne e.symm), ← List.getD_eq_getElem?_getD, kn_get hh]
  congr 1
  refine List.map_congr_left fun z hz => ?_
  obtain ⟨y, rfl, hy⟩ := bys_ok he (by omega) z hz
  rw [ent_E hy, Int.toNat_natCast, Int.toNat_natCast]
  rfl
theorem eE_ge (he : ∀ p ∈ ends, PrOk web p) (hx : x < web.length) (hh : h < 8) (hne : h ≠ hdW web x) (hy : (y : Int) ∈ bys web ends x) : eE web ends y h ≤ eE web ends x h := by
  rw [eE_oth he hx hh hne]
  have hm : eE web ends y h ∈ (bys web ends x).map fun z => eE web ends z.toNat h := List.mem_map.mpr ⟨_, hy, by rw [Int.toNat_natCast]⟩
  rcases mxD_cases ((bys web ends x).map fun z => eE web ends z.toNat h) 0 with ⟨e, _⟩ | ⟨_, q⟩
  · rw [e] at hm; cases hm
  · exact q _ hm
theorem eE_gt (he : ∀ p ∈ ends, PrOk web p) (hx : x < web.length) (hh : h < 8) (hne : h ≠ hdW web x) (h0 : 0 ≤ c) (hc : c < eE web ends x h) : ∃ y : Nat, y < x ∧ (y : Int) ∈ bys web ends x ∧ c < eE web ends y h := by
  rw [eE_oth he hx hh hne] at hc
  rcases mxD_cases ((bys web ends x).map fun z => eE web ends z.toNat h) 0 with ⟨_, q⟩ | ⟨q, _⟩
  · rw [q] at hc; omega
  · obtain ⟨z, hz, e⟩ := List.mem_map.mp q
    obtain ⟨y, rfl, hy⟩ := bys_ok he (by omega) z hz
    rw [Int.toNat_natCast] at e
    exact ⟨y, hy, hz, by rw [e]; exact hc⟩
theorem same_a (hw : ∀ t ∈ web, ToOk t) (hy : y < web.length) (hx : x < web.length) : hdW web y = hdW web x ↔ (gW web y).a = (gW web x).a := by
  rw [hdW_a hw hy, hdW_a hw hx]
  omega
/-- the touch of the same hand just ahead -/
theorem prev_ge (hw : ∀ t ∈ web, ToOk t) (hx : x < web.length) (hy : y < x) (e : hdW web y = hdW web x) : ∃ p : Nat, (p : Int) ∈ pvl web x ∧ y ≤ p ∧ p < x ∧ hdW web p = hdW web x := by
  have ea := (same_a hw (show y < web.length by omega) hx).mp e
  unfold pvl
  cases hl : li web (gW web x).a x with
  | none =>
    have h0 := li_none (by omega) hl
    have := cnt_mono (web := web) (h := (gW web x).a) ea hy (by omega)
    omega
  | some q =>
    obtain ⟨q1, q2, q3⟩ := li_some (by omega) hl
    refine ⟨q, by simp, ?_, q1, (same_a hw (by omega) hx).mpr q2⟩
    apply Classical.byContradiction
    intro n
    have h1 := cnt_mono (web := web) (h := (gW web x).a) q2 (show q < y by omega) (by omega)
    have h2 := cnt_mono (web := web) (h := (gW web x).a) ea hy (by omega)
    omega
theorem pvl_hd (hw : ∀ t ∈ web, ToOk t) (hx : x < web.length) (hm : (y : Int) ∈ pvl web x) : y < x ∧ hdW web y = hdW web x := by
  unfold pvl at hm
  cases hl : li web (gW web x).a x with
  | none => rw [hl] at hm; cases hm
  | some q =>
    rw [hl] at hm
    obtain ⟨q1, q2, q3⟩ := li_some (by omega) hl
    have : y = q := by have := List.mem_singleton.mp hm; omega
    subst this
    exact ⟨q1, (same_a hw (by omega) hx).mpr q2⟩
theorem fsj_mem : (y : Int) ∈ fsj ends x ↔ ((y : Int), (x : Int)) ∈ ends := by
  unfold fsj
  rw [List.mem_map]
  constructor
  · rintro ⟨⟨a, b⟩, h1, h2⟩
    obtain ⟨h3, h4⟩ := List.mem_filter.mp h1
    rw [decide_eq_true_eq] at h4
    dsimp only at h2 h4
    rw [h2, h4] at h3
    exact h3
  · intro h
    exact ⟨_, List.mem_filter.mpr ⟨h, by simp⟩, rfl⟩
/-- all the notes are enough -/
theorem suf (hw : ∀ t ∈ web, ToOk t) (he : ∀ p ∈ ends, PrOk web p) (hall : ∀ i j : Nat, Least web i j → j < web.length → ((i : Int), (j : Int)) ∈ ends) : ∀ x, x < web.length → ∀ h, h < 8 → TW web x h ≤ eE web ends x h := by
  intro x
  induction x using Nat.strongRecOn with
  | _ x ih =>
    intro hx h hh
    by_cases e : h = hdW web x
    · subst e
      rw [eE_own hw hx]
      have : TW web x (hdW web x) = cW web x + 1 := TT_own
      omega
    · have eq : TW web x h = supR (stW web) (TW web) x h x := TT_oth e
      rw [eq]
      refine supR_le eE_nn ?_
      have key : ∀ d y, x - y = d → y < x → stW web y x = true → TW web y h ≤ eE web ends x h := by
        intro d
        induction d using Nat.strongRecOn with
        | _ d ihd =>
          intro y hd hy hs
          by_cases e2 : hdW web y = hdW web x
          · obtain ⟨p, p1, p2, p3, p4⟩ := prev_ge hw hx hy e2
            have a1 : TW web y h ≤ TW web p h := by
              by_cases e3 : y = p
              · rw [e3]; exact Int.le_refl _
              · exact TT_step (by omega) (hst_W y p (e2.trans p4.symm))
            exact Int.le_trans a1 (Int.le_trans (ih p p3 (by omega) h hh) (eE_ge he hx hh e (List.mem_append_right _ p1)))
          · by_cases hL : ∀ z, y < z → z < x → stW web z x = true → TW web z (hdW web y) ≤ cW web y
            · have hm := hall y x ⟨hy, hs, e2, hL⟩ hx
              exact Int.le_trans (ih y hy (by omega) h hh) (eE_ge he hx hh e (List.mem_append_left _ (fsj_mem.mpr hm)))
            · simp only [Classical.not_forall, Int.not_le] at hL
              obtain ⟨z, z1, z2, z3, z4⟩ := hL
              have a1 := (anc_mono (web := web) (p := y) (x := z) z4).2 h
              exact Int.le_trans a1 (ihd (x - z) (by omega) z rfl z2 z3)
      exact fun y hy hs => key (x - y) y rfl hy hs
/-- one stands ahead of another -/
def Bef (o : List Int) (a b : Int) : Prop := ∃ s t : Nat, s < t ∧ o[s]? = some a ∧ o[t]? = some b
theorem sub2 : ∀ {o : List Int} {a b : Int}, [a, b].Sublist o → Bef o a b
  | x :: o, a, b, h => by
    cases h with
    | cons _ h =>
      obtain ⟨s, t, h1, h2, h3⟩ := sub2 h
      exact ⟨s + 1, t + 1, by omega, by simpa using h2, by simpa using h3⟩
    | cons_cons _ h =>
      obtain ⟨t, ht⟩ := List.mem_iff_getElem?.mp (List.singleton_sublist.mp h)
      exact ⟨0, t + 1, by omega, by simp, by simpa using ht⟩
theorem at_uniq {o : List Int} (hn : o.Nodup) {s t : Nat} {a : Int} (h1 : o[s]? = some a) (h2 : o[t]? = some a) : s = t :=
  (List.getElem?_inj (List.getElem?_eq_some_iff.mp h1).1 hn).mp (h1.trans h2.symm)
theorem Bef.trans {o : List Int} (hn : o.Nodup) {a b d : Int} (h1 : Bef o a b) (h2 : Bef o b d) : Bef o a d := by
  obtain ⟨s, t, st, hs, ht⟩ := h1
  obtain ⟨u, v, uv, hu, hv⟩ := h2
  have := at_uniq hn ht hu
  exact ⟨s, v, by omega, hs, hv⟩
/-- a note that is left out is not known -/
theorem nec (hw : ∀ t ∈ web, ToOk t) (he : ∀ p ∈ ends, PrOk web p) (hst : ∀ a b : Nat, ((a : Int), (b : Int)) ∈ ends → a < b ∧ stW web a b = true) (hL : Least web i j) (hj : j < web.length) (hno : ((i : Int), (j : Int)) ∉ ends) :
    ∀ x, x < web.length → ∀ p, p < web.length → cW web p < eE web ends x (hdW web p) → p = x ∨ Bef (Or2 web i j web.length) p x := by
  have hnd : (Or2 web i j web.length).Nodup := or_nd hL.lt (.inr ⟨rfl, rfl⟩)
  have edge : ∀ a b : Nat, a < b → b < web.length → stW web a b = true → ¬ (a = i ∧ b = j) → Bef (Or2 web i j web.length) a b := fun a b h1 h2 h3 h4 => sub2 (kept hL hj h1 h2 h3 h4 (.inr ⟨rfl, rfl⟩))
  intro x
  induction x using Nat.strongRecOn with
  | _ x ih =>
    intro hx p hp hc
    by_cases e : hdW web p = hdW web x
    · rw [e, eE_own hw hx] at hc
      by_cases e2 : p = x
      · exact .inl e2
      · by_cases lt : p < x
        · exact .inr (edge p x lt hx (hst_W p x e) fun c => hL.ne (by rw [← c.1, ← c.2]; exact e))
        · have q : cn (hdW web) (hdW web x) (x + 1) ≤ cn (hdW web) (hdW web x) p := cn_mono (by omega)
          rw [cn_own] at q
          have : cW web p = cn (hdW web) (hdW web x) p := by show cn (hdW web) (hdW web p) p = _; rw [e]
          have : cW web x = cn (hdW web) (hdW web x) x := rfl
          omega
    · obtain ⟨y, hy, hm, hl⟩ := eE_gt he hx (hdW_8 hw hp) e cn_nn hc
      have yx : Bef (Or2 web i j web.length) y x := by
        rcases List.mem_append.mp hm with q | q
        · have hm2 := fsj_mem.mp q
          obtain ⟨h1, h2⟩ := hst y x hm2
          exact edge y x h1 hx h2 fun c => hno (by rw [← c.1, ← c.2]; exact hm2)
        · obtain ⟨h1, h2⟩ := pvl_hd hw hx q
          exact edge y x h1 hx (hst_W y x h2) fun c => hL.ne (by rw [← c.1, ← c.2]; exact h2)
      rcases ih y hy (by omega) p hp hl with q | q
      · rw [q]; exact .inr yx
      · exact .inr (q.trans hnd yx)
theorem meet_of (hw : ∀ t ∈ web, ToOk t) (hi : i < web.length) (hj : j < web.length) (hs : stW web i j = true) (hne : hdW web i ≠ hdW web j) : meetS (gW web i) (gW web j) = true := by
  rw [stW_S hw hi hj] at hs
  unfold stS at hs
  rw [decide_eq_false (fun e => hne ((same_a hw hi hj).mpr e)), Bool.false_or] at hs
  exact hs
theorem st_of_meet (hw : ∀ t ∈ web, ToOk t) (hi : i < web.length) (hj : j < web.length) (hm : meetS (gW web i) (gW web j) = true) : stW web i j = true := by
  rw [stW_S hw hi hj]
  unfold stS
  rw [hm, Bool.or_true]
theorem lack_E (hw : ∀ t ∈ web, ToOk t) (hi : i < web.length) (hj : j < web.length) : lack web (Tb web ends web.length) (i : Int) (j : Int) = (meetS (gW web i) (gW web j) && decide (eE web ends j (hdW web i) ≤ cW web i)) := by
  unfold lack
  rw [ent_E hj, Int.toNat_natCast, Int.toNat_natCast, nmN_W hw hi]
  rfl
theorem any_suf (hw : ∀ t ∈ web, ToOk t) (he : ∀ p ∈ ends, PrOk web p) (hall : ∀ i j : Nat, Least web i j → j < web.length → ((i : Int), (j : Int)) ∈ ends) : anyLack web (Tb web ends web.length) = false := by
  unfold anyLack
  rw [List.any_eq_false]
  intro zj hzj c
  obtain ⟨j, rfl, hj⟩ := rng_in.mp hzj
  obtain ⟨zi, hzi, c⟩ := List.any_eq_true.mp c
  obtain ⟨i, rfl, hi⟩ := rng_in.mp hzi
  rw [lack_E hw (by omega) hj, Bool.and_eq_true, decide_eq_true_eq] at c
  have s := suf hw he hall j hj (hdW web i) (hdW_8 hw (by omega))
  have a := anc_step hi (st_of_meet hw (show i < web.length by omega) hj c.1)
  unfold anc at a
  omega
theorem any_nec (hw : ∀ t ∈ web, ToOk t) (he : ∀ p ∈ ends, PrOk web p) (hst : ∀ a b : Nat, ((a : Int), (b : Int)) ∈ ends → a < b ∧ stW web a b = true) (hL : Least web i j) (hj : j < web.length) (hno : ((i : Int), (j : Int)) ∉ ends) : anyLack web (Tb web ends web.length) = true := by
  have hij := hL.lt
  unfold anyLack
  refine List.any_eq_true.mpr ⟨(j : Int), rng_in.mpr ⟨j, rfl, hj⟩, List.any_eq_true.mpr ⟨(i : Int), rng_in.mpr ⟨i, rfl, hij⟩, ?_⟩⟩
  rw [lack_E hw (by omega) hj, Bool.and_eq_true, decide_eq_true_eq]
  refine ⟨meet_of hw (by omega) hj hL.st hL.ne, ?_⟩
  apply Classical.byContradiction
  intro c
  have hnd : (Or2 web i j web.length).Nodup := or_nd hij (.inr ⟨rfl, rfl⟩)
  rcases nec hw he hst hL hj hno j hj i (by omega) (by omega) with e | ⟨s, t, st, hs, ht⟩
  · omega
  · have e1 : (Or2 web i j web.length)[(AH web i j web.length).length]? = some (j : Int) := by
      unfold Or2
      rw [List.append_assoc, List.getElem?_append_right (Nat.le_refl _), Nat.sub_self]
      rfl
    have e2 : (Or2 web i j web.length)[(AH web i j web.length).length + 1]? = some (i : Int) := by
      unfold Or2
      rw [List.append_assoc, List.getElem?_append_right (by omega)]
      have : (AH web i j web.length).length + 1 - (AH web i j web.length).length = 1 := by omega
      rw [this]
      rfl
    have := at_uniq hnd hs e2
    have := at_uniq hnd ht e1
    omega
end
end M

/-! # the notes told -/
namespace M
open PySem L2 Z
section
variable {web : List (P3 Int Str Int)} {o st : List Int} {pairs : List (Int × Int)} {i j n t : Nat}
/-- a step between two hands -/
def StP (web : List (P3 Int Str Int)) (p : Int × Int) : Prop := ∃ i j : Nat, p = ((i : Int), (j : Int)) ∧ i < j ∧ j < web.length ∧ stW web i j = true ∧ hdW web i ≠ hdW web j
theorem StP.pr (hw : ∀ t ∈ web, ToOk t) {p : Int × Int} (h : StP web p) : PrOk web p := by
  obtain ⟨i, j, rfl, hij, hj, hs, hne⟩ := h
  exact ⟨by dsimp only; omega, by dsimp only; omega, by dsimp only; omega, fun e => hne ((same_a hw (by omega) hj).mpr e)⟩
theorem LP_st : ∀ p ∈ LP web web.length, StP web p := fun p hp => by
  obtain ⟨i, j, rfl, hij, hj, hk⟩ := LP_keep _ p hp
  have := Least.of hij hk
  exact ⟨i, j, rfl, hij, hj, this.st, this.ne⟩
theorem LP_has (h : Least web i j) : ∀ {n}, j < n → ((i : Int), (j : Int)) ∈ LP web n
  | n + 1, hj => by
    refine List.mem_append.mpr ?_
    by_cases e : j = n
    · subst e
      refine .inr (List.mem_map.mpr ⟨(i : Int), List.mem_filter.mpr ⟨rng_in.mpr ⟨i, rfl, h.lt⟩, ?_⟩, rfl⟩)
      exact (keep_iff h.lt).mpr ⟨h.st, h.ne, h.no⟩
    · exact .inl (LP_has h (by omega))
theorem ntN_inj (hw : ∀ t ∈ web, ToOk t) {p q : Int × Int} (hp : StP web p) (hq : StP web q) (e : ntN web p = ntN web q) : p = q := by
  obtain ⟨i, j, rfl, hij, hj, -, -⟩ := hp
  obtain ⟨x, y, rfl, hxy, hy, -, -⟩ := hq
  unfold ntN at e
  injection e with e1 e2 e3 e4
  simp only [Int.toNat_natCast] at e1 e2 e3 e4
  have a := nm_inj (web := web) (show i < web.length by omega) (show x < web.length by omega) (Prod.ext e1 e2)
  have b := nm_inj (web := web) hj hy (Prod.ext e3 e4)
  rw [a, b]
theorem exMap {α β : Type} {P : α → Prop} {f : α → β} : ∀ {l : List β}, (∀ x ∈ l, ∃ p, P p ∧ x = f p) → ∃ ps : List α, l = ps.map f ∧ ∀ p ∈ ps, P p
  | [], _ => ⟨[], rfl, fun _ h => nomatch h⟩
  | x :: l, h => by
    obtain ⟨p, hp, e⟩ := h x List.mem_cons_self
    obtain ⟨ps, e2, h2⟩ := exMap fun y hy => h y (List.mem_cons_of_mem _ hy)
    refine ⟨p :: ps, by rw [e, e2]; rfl, fun q hq => ?_⟩
    rcases List.mem_cons.mp hq with r | r
    · rw [r]; exact hp
    · exact h2 q r
/-- notes of steps -/
def NtL (web : List (P3 Int Str Int)) (l : List Note) : Prop := ∀ x ∈ l, ∃ p, StP web p ∧ x = ntN web p
def has (web : List (P3 Int Str Int)) (l : List Note) : Bool := decide (∀ p ∈ LP web web.length, ntN web p ∈ l)
theorem enoughL_wp {l : List Note} {Φ : Bool → Prop} (hw : ∀ t ∈ web, ToOk t) (hl : web.length ≤ 300) (hn : NtL web l) (hll : l.length ≤ 500000) (k : Φ (has web l)) : (m_enough web l).run Φ := by
  obtain ⟨ps, rfl, hp⟩ := exMap hn
  refine enough_wp hw hl (fun p h => (hp p h).pr hw) (by rwa [List.length_map] at hll) ?_
  have : (!anyLack web (Tb web ps web.length)) = has web (ps.map (ntN web)) := by
    by_cases c : ∀ p ∈ LP web web.length, ntN web p ∈ ps.map (ntN web)
    · unfold has
      rw [decide_eq_true c, any_suf hw (fun p h => (hp p h).pr hw) fun i j hL hj => ?_]
      · rfl
      · have hm := LP_has hL hj
        obtain ⟨q, hq, e⟩ := List.mem_map.mp (c _ hm)
        rw [← ntN_inj hw (hp q hq) (LP_st _ hm) e]
        exact hq
    · unfold has
      rw [decide_eq_false c]
      simp only [Classical.not_forall] at c
      obtain ⟨p, hm, hno⟩ := c
      obtain ⟨i, j, rfl, hij, hj, hk⟩ := LP_keep _ p hm
      rw [any_nec hw (fun p h => (hp p h).pr hw) (fun a b h => ?_) (Least.of hij hk) hj fun h => hno (List.mem_map.mpr ⟨_, h, rfl⟩)]
      · rfl
      · obtain ⟨x, y, e, h1, h2, h3, h4⟩ := hp _ h
        have e1 : a = x := by have := (Prod.mk.inj e).1; omega
        have e2 : b = y := by have := (Prod.mk.inj e).2; omega
        rw [e1, e2]
        exact ⟨h1, h3⟩
  rw [this]
  exact k
/-- the notes told -/
def TL (web : List (P3 Int Str Int)) : List Note := srtK (DP web web.length)
theorem nam_N (hw : ∀ t ∈ web, ToOk t) {p : Int × Int} (hp : StP web p) : namW web p = ntN web p := by
  obtain ⟨i, j, rfl, hij, hj, -, -⟩ := hp
  have e1 := nmN_W hw (show i < web.length by omega)
  have e2 := nmN_W hw hj
  show (⟨(hdW web ((i : Int)).toNat : Int), cW web ((i : Int)).toNat, (hdW web ((j : Int)).toNat : Int), cW web ((j : Int)).toNat⟩ : Note) = ⟨(nmN web ((i : Int)).toNat).1, (nmN web ((i : Int)).toNat).2, (nmN web ((j : Int)).toNat).1, (nmN web ((j : Int)).toNat).2⟩
  simp only [Int.toNat_natCast, e1, e2]
theorem mem_TL (hw : ∀ t ∈ web, ToOk t) {x : Note} : x ∈ TL web ↔ ∃ p ∈ LP web web.length, x = ntN web p := by
  unfold TL
  rw [(srtK_perm (DP web web.length)).mem_iff, (DP_perm web.length).mem_iff, List.mem_map]
  constructor
  · rintro ⟨p, hp, rfl⟩; exact ⟨p, hp, nam_N hw (LP_st p hp)⟩
  · rintro ⟨p, hp, rfl⟩; exact ⟨p, hp, nam_N hw (LP_st p hp)⟩
theorem TL_len (hl : web.length ≤ 200) : (TL web).length ≤ 60000 := by
  unfold TL
  rw [(srtK_perm _).length_eq]
  exact Nat.le_trans (DP_len _ (by omega)) (Nat.mul_le_mul_right 300 hl)
theorem TL_nt (hw : ∀ t ∈ web, ToOk t) : NtL web (TL web) := fun x hx => by
  obtain ⟨p, hp, rfl⟩ := (mem_TL hw).mp hx
  exact ⟨p, LP_st p hp, rfl⟩
theorem has_TL (hw : ∀ t ∈ web, ToOk t) {l : List Note} : has web l = decide (∀ x ∈ TL web, x ∈ l) := by
  unfold has
  congr 1
  refine propext ⟨fun h x hx => ?_, fun h p hp => h _ ((mem_TL hw).mpr ⟨p, hp, rfl⟩)⟩
  obtain ⟨p, hp, rfl⟩ := (mem_TL hw).mp hx
  exact h p hp
end
end M

/-! # what is known in a web's first touches, and in its later ones -/
namespace M
open PySem L2 Z
section
variable {hd hd' : Nat → Nat} {st st' : Nat → Nat → Bool} {x h c : Nat}
theorem cn_congr : ∀ {x}, (∀ y, y < x → hd y = hd' y) → cn hd h x = cn hd' h x
  | 0, _ => rfl
  | x + 1, e => by
    show cn hd h x + (if hd x = h then 1 else 0) = cn hd' h x + (if hd' x = h then 1 else 0)
    rw [cn_congr fun y hy => e y (by omega), e x (by omega)]
theorem supR_congr2 {T T' : Nat → Nat → Int} {m : Nat} (es : ∀ y, y < m → st y x = st' y x) (e : ∀ y, y < m → T y h = T' y h) : supR st T x h m = supR st' T' x h m := by
  induction m with
  | zero => rfl
  | succ m ih =>
    show (if st m x = true then mx (supR st T x h m) (T m h) else supR st T x h m) = (if st' m x = true then mx (supR st' T' x h m) (T' m h) else supR st' T' x h m)
    rw [ih (fun y hy => es y (by omega)) fun y hy => e y (by omega), e m (by omega), es m (by omega)]
theorem TT_congr (eh : ∀ y, y < c → hd y = hd' y) (es : ∀ y z, y < c → z < c → st y z = st' y z) : ∀ x, x < c → ∀ h, TT hd st x h = TT hd' st' x h := by
  intro x
  induction x using Nat.strongRecOn with
  | ind x ih =>
    intro hx h
    rw [TT_eq, TT_eq (hd := hd'), eh x hx]
    split
    · rw [cn_congr fun y hy => eh y (by omega)]
    · exact supR_congr2 (fun y hy => es y x (by omega) hx) fun y hy => ih y hy (by omega) h
/-- counted from a place on -/
theorem cn_shift (eh : ∀ y, hd' y = hd (c + y)) : ∀ x, cn hd h (c + x) = cn hd h c + cn hd' h x
  | 0 => (Int.add_zero _).symm
  | x + 1 => by
    show cn hd h (c + x) + (if hd (c + x) = h then 1 else 0) = cn hd h c + (cn hd' h x + (if hd' x = h then 1 else 0))
    rw [cn_shift eh x, eh x]
    omega
theorem TT_shift (eh : ∀ y, hd' y = hd (c + y)) (es : ∀ y z, st' y z = st (c + y) (c + z)) : ∀ x h, TT hd st (c + x) h ≤ cn hd h c + TT hd' st' x h ∧ (0 < TT hd' st' x h → cn hd h c + TT hd' st' x h ≤ TT hd st (c + x) h) := by
  intro x
  induction x using Nat.strongRecOn with
  | ind x ih =>
    intro h
    rw [TT_eq, TT_eq (hd := hd'), eh x]
    by_cases e : h = hd (c + x)
    · rw [if_pos e, if_pos e, cn_shift eh x, e]
      exact ⟨by omega, fun _ => by omega⟩
    · rw [if_neg e, if_neg e]
      refine ⟨?_, fun hp => ?_⟩
      · refine supR_le (Int.add_nonneg cn_nn supR_nn) fun y hy hs => ?_
        by_cases q : y < c
        · have h1 := TT_bd (hd := hd) (st := st) y h
          have h2 := cn_mono (hd := hd) (h := h) (y := y + 1) (x := c) (by omega)
          have h3 := supR_nn (st := st') (T := TT hd' st') (x := x) (h := h) (m := x)
          omega
        · obtain ⟨z, rfl⟩ : ∃ z, y = c + z := ⟨y - c, by omega⟩
          have h1 := (ih z (by omega) h).1
          have h2 := supR_ge (st := st') (T := TT hd' st') (h := h) (show z < x by omega) (by rw [es]; exact hs)
          omega
      · obtain ⟨z, hz, hs, hl⟩ := supR_gt (Int.le_refl 0) hp
        -- the greatest is one of the values
        have key : ∀ v : Int, 0 < v → v ≤ supR st' (TT hd' st') x h x → cn hd h c + v ≤ supR st (TT hd st) (c + x) h (c + x) := fun v hv hle => by
          obtain ⟨y, hy, hs', hl'⟩ := supR_gt (st := st') (T := TT hd' st') (c := v - 1) (by omega) (show v - 1 < supR st' (TT hd' st') x h x by omega)
          have h1 := (ih y hy h).2 (by omega)
          have h2 := supR_ge (st := st) (T := TT hd st) (h := h) (show c + y < c + x by omega) (by rw [← es]; exact hs')
          omega
        exact key _ hp (Int.le_refl _)
/-- known there just where known here -/
theorem known_shift (eh : ∀ y, hd' y = hd (c + y)) (es : ∀ y z, st' y z = st (c + y) (c + z)) (i x : Nat) : cn hd h (c + i) < TT hd st (c + x) h ↔ cn hd' h i < TT hd' st' x h := by
  have h1 := TT_shift eh es x h
  have h2 := cn_shift (hd := hd) (h := h) eh i
  have h3 := cn_nn (hd := hd') (h := h) (x := i)
  constructor
  · intro q; omega
  · intro q
    have := h1.2 (by omega)
    omega
end
section
variable {web : List (P3 Int Str Int)} {c i j n : Nat}
theorem gW_take' (hj : j < c) : gW (web.take c) j = gW web j := by
  unfold gW
  rw [List.getD_eq_getElem?_getD, List.getD_eq_getElem?_getD, List.getElem?_take_of_lt hj]
theorem gW_drop : gW (web.drop c) j = gW web (c + j) := by
  unfold gW
  rw [List.getD_eq_getElem?_getD, List.getD_eq_getElem?_getD, List.getElem?_drop]
theorem hdW_take (hj : j < c) : hdW (web.take c) j = hdW web j := by unfold hdW; rw [gW_take' hj]
theorem hdW_drop : hdW (web.drop c) j = hdW web (c + j) := by unfold hdW; rw [gW_drop]
theorem stW_take (hi : i < c) (hj : j < c) : stW (web.take c) i j = stW web i j := by
  unfold stW
  rw [hdW_take hi, hdW_take hj, gW_take' hi, gW_take' hj]
theorem stW_drop : stW (web.drop c) i j = stW web (c + i) (c + j) := by
  unfold stW
  rw [hdW_drop, hdW_drop, gW_drop, gW_drop]
theorem cW_take (hj : j < c) : cW (web.take c) j = cW web j := by
  unfold cW
  rw [hdW_take hj]
  exact cn_congr fun y hy => hdW_take (by omega)
theorem cW_drop : cW web (c + j) = cn (hdW web) (hdW web (c + j)) c + cW (web.drop c) j := by
  unfold cW
  rw [hdW_drop]
  exact cn_shift (fun y => hdW_drop) j
theorem TW_take {x h : Nat} (hx : x < c) : TW (web.take c) x h = TW web x h :=
  TT_congr (c := c) (fun y hy => hdW_take hy) (fun y z hy hz => stW_take hy hz) x hx h
theorem keep_take (hij : i < j) (hj : j < c) : keepB (web.take c) j i = keepB web j i := by
  refine Bool.eq_iff_iff.mpr ?_
  rw [keep_iff hij, keep_iff hij, stW_take (by omega) hj, hdW_take (by omega), hdW_take hj, cW_take (by omega)]
  refine and_congr_right fun _ => and_congr_right fun _ => forall_congr' fun y => forall_congr' fun h1 => forall_congr' fun h2 => ?_
  rw [stW_take (by omega) hj, TW_take (by omega)]
theorem keep_drop (hij : i < j) : keepB (web.drop c) j i = keepB web (c + j) (c + i) := by
  refine Bool.eq_iff_iff.mpr ?_
  rw [keep_iff hij, keep_iff (show c + i < c + j by omega), stW_drop, hdW_drop, hdW_drop]
  refine and_congr_right fun _ => and_congr_right fun _ => ?_
  have ks : ∀ y, TW (web.drop c) y (hdW web (c + i)) ≤ cW (web.drop c) i ↔ TW web (c + y) (hdW web (c + i)) ≤ cW web (c + i) := fun y => by
    have := known_shift (hd := hdW web) (hd' := hdW (web.drop c)) (st := stW web) (st' := stW (web.drop c)) (h := hdW web (c + i)) (c := c) (fun y => hdW_drop) (fun y z => stW_drop) i y
    have e1 : cW (web.drop c) i = cn (hdW (web.drop c)) (hdW web (c + i)) i := by unfold cW; rw [hdW_drop]
    have e2 : cW web (c + i) = cn (hdW web) (hdW web (c + i)) (c + i) := rfl
    have e3 : TW (web.drop c) y (hdW web (c + i)) = TT (hdW (web.drop c)) (stW (web.drop c)) y (hdW web (c + i)) := rfl
    have e4 : TW web (c + y) (hdW web (c + i)) = TT (hdW web) (stW web) (c + y) (hdW web (c + i)) := rfl
    rw [e1, e2, e3, e4]
    omega
  constructor
  · intro h y h1 h2 h3
    obtain ⟨z, rfl⟩ : ∃ z, y = c + z := ⟨y - c, by omega⟩
    exact (ks z).mp (h z (by omega) (by omega) (by rw [stW_drop]; exact h3))
  · intro h y h1 h2 h3
    exact (ks y).mpr (h (c + y) (by omega) (by omega) (by rw [← stW_drop]; exact h3))

theorem nd_map {α β : Type} {f : α → β} {l : List α} (h : ∀ x ∈ l, ∀ y ∈ l, f x = f y → x = y) (hn : l.Nodup) : (l.map f).Nodup := by
  unfold List.Nodup
  rw [List.pairwise_map]
  exact List.Pairwise.imp_of_mem (fun hx hy hne e => hne (h _ hx _ hy e)) hn
/-! the pairs of notes, by their places -/
theorem mem_LP : ∀ {n : Nat} {p : Int × Int}, p ∈ LP web n ↔ ∃ i j : Nat, p = ((i : Int), (j : Int)) ∧ i < j ∧ j < n ∧ keepB web j i = true
  | 0, p => ⟨fun h => (nomatch h), fun ⟨_, _, _, _, h, _⟩ => by omega⟩
  | n + 1, p => by
    show p ∈ LP web n ++ ((rng 0 (n : Int)).filter (keepZ web n)).map (fun i => (i, (n : Int))) ↔ _
    rw [List.mem_append, mem_LP, List.mem_map]
    constructor
    · rintro (⟨i, j, h1, h2, h3, h4⟩ | ⟨z, hz, rfl⟩)
      · exact ⟨i, j, h1, h2, by omega, h4⟩
      · obtain ⟨hz1, hz2⟩ := List.mem_filter.mp hz
        obtain ⟨z0, z1⟩ := rng_mem.mp hz1
        refine ⟨z.toNat, n, ?_, by omega, by omega, hz2⟩
        rw [show ((z.toNat : Nat) : Int) = z by omega]
    · rintro ⟨i, j, rfl, h2, h3, h4⟩
      by_cases e : j = n
      · subst e
        refine .inr ⟨(i : Int), List.mem_filter.mpr ⟨rng_mem.mpr ⟨by omega, by omega⟩, ?_⟩, rfl⟩
        show keepB web j ((i : Int)).toNat = true
        rw [Int.toNat_natCast]; exact h4
      · exact .inl ⟨i, j, rfl, h2, by omega, h4⟩
theorem LP_nd : ∀ n, (LP web n).Nodup
  | 0 => List.nodup_nil
  | n + 1 => by
    show (LP web n ++ ((rng 0 (n : Int)).filter (keepZ web n)).map (fun i => (i, (n : Int)))).Nodup
    refine List.nodup_append.mpr ⟨LP_nd n, ?_, fun a ha b hb => ?_⟩
    · refine nd_map (fun x _ y _ e => (Prod.mk.inj e).1) ?_
      exact ((rng_pw 0 (n : Int)).imp (fun h => by omega)).filter _
    · obtain ⟨i, j, rfl, h1, h2, _⟩ := mem_LP.mp ha
      obtain ⟨z, _, rfl⟩ := List.mem_map.mp hb
      intro e
      have := (Prod.mk.inj e).2
      omega
/-- the notes of the first touches -/
theorem LP_take (hc : c ≤ web.length) : LP (web.take c) c = LP web c := by
  have key : ∀ n, n ≤ c → LP (web.take c) n = LP web n := by
    intro n
    induction n with
    | zero => intro _; rfl
    | succ n ih =>
      intro hn
      show LP (web.take c) n ++ ((rng 0 (n : Int)).filter (keepZ (web.take c) n)).map (fun i => (i, (n : Int))) = LP web n ++ ((rng 0 (n : Int)).filter (keepZ web n)).map (fun i => (i, (n : Int)))
      rw [ih (by omega)]
      congr 2
      refine List.filter_congr fun z hz => ?_
      obtain ⟨z0, z1⟩ := rng_mem.mp hz
      exact keep_take (by omega) (by omega)
  exact key c (Nat.le_refl _)
/-- the notes of the later touches alone -/
theorem LP_drop (hc : c ≤ web.length) : ((LP (web.drop c) (web.length - c)).map fun p => (p.1 + (c : Int), p.2 + (c : Int))).Perm ((LP web web.length).filter fun p => decide ((c : Int) ≤ p.1)) := by
  refine (List.perm_ext_iff_of_nodup ?_ ((LP_nd _).filter _)).mpr fun p => ?_
  · refine nd_map (fun x _ y _ e => ?_) (LP_nd _)
    have h1 := (Prod.mk.inj e).1
    have h2 := (Prod.mk.inj e).2
    exact Prod.ext (by omega) (by omega)
  · rw [List.mem_map, List.mem_filter, mem_LP, decide_eq_true_eq]
    constructor
    · rintro ⟨q, hq, rfl⟩
      obtain ⟨i, j, rfl, h1, h2, h3⟩ := mem_LP.mp hq
      refine ⟨⟨c + i, c + j, by ext <;> simp <;> omega, by omega, by omega, ?_⟩, by dsimp only; omega⟩
      rw [← keep_drop h1]; exact h3
    · rintro ⟨⟨i, j, rfl, h1, h2, h3⟩, h4⟩
      dsimp only at h4
      refine ⟨(((i - c : Nat) : Int), ((j - c : Nat) : Int)), mem_LP.mpr ⟨i - c, j - c, rfl, by omega, by omega, ?_⟩, ?_⟩
      · rw [keep_drop (by omega), show c + (j - c) = j by omega, show c + (i - c) = i by omega]; exact h3
      · ext <;> simp <;> omega
end
end M

/-! # k29: the notes of another order, and of a cut's two parts -/
namespace M
open PySem L2 Z
section
variable {web : List (P3 Int Str Int)} {o os : List Nat} {x y i j n c : Nat}
def isL (web : List (P3 Int Str Int)) (x : Nat) : Bool := decide ((gW web x).b = ("load" : Str))
theorem stW_iff : stW web y x = true ↔ hdW web y = hdW web x ∨ ((gW web y).c = (gW web x).c ∧ (isL web y = false ∨ isL web x = false)) := by
  unfold stW stS meetS isL
  by_cases e : hdW web y = hdW web x
  · simp [e]
  · have ne : (gW web y).a ≠ (gW web x).a := fun q => e (by unfold hdW; rw [q])
    by_cases d : (gW web y).c = (gW web x).c
    · simp [e, ne, d]
    · simp [e, ne, d]
theorem known_le {z : Nat} (h : cW web i < TW web z (hdW web i)) : i ≤ z := (TT_trans hst_W z i h).1
theorem cW_inj (e1 : hdW web x = hdW web y) (e2 : cW web x = cW web y) : x = y := by
  have key : ∀ {x y : Nat}, hdW web x = hdW web y → x < y → cW web x < cW web y := fun {x y} e l => by
    have h1 : cn (hdW web) (hdW web x) (x + 1) = cn (hdW web) (hdW web x) x + 1 := cn_own
    have h2 : cn (hdW web) (hdW web x) (x + 1) ≤ cn (hdW web) (hdW web x) y := cn_mono (by omega)
    show cn (hdW web) (hdW web x) x < cn (hdW web) (hdW web y) y
    rw [← e]
    omega
  rcases Nat.lt_trichotomy x y with q | q | q
  · have := key e1 q; omega
  · exact q
  · have := key e1.symm q; omega
def wo (web : List (P3 Int Str Int)) (o : List Nat) : List (P3 Int Str Int) := o.map (gW web)
theorem wo_len : (wo web o).length = o.length := by unfold wo; simp
theorem gW_wo (e : o[j]? = some x) : gW (wo web o) j = gW web x := by
  have : (wo web o)[j]? = some (gW web x) := by unfold wo; rw [List.getElem?_map, e]; rfl
  have hj : j < (wo web o).length := (List.getElem?_eq_some_iff.mp this).1
  exact Option.some.inj ((gW_get hj).symm.trans this)
theorem hd_wo (e : o[j]? = some x) : hdW (wo web o) j = hdW web x := by unfold hdW; rw [gW_wo e]
theorem st_wo (e : o[i]? = some x) (e' : o[j]? = some y) : stW (wo web o) i j = stW web x y := by unfold stW hdW; rw [gW_wo e, gW_wo e']
theorem st_sym : stW web x y = true ↔ stW web y x = true := by
  rw [stW_iff, stW_iff]
  constructor
  · rintro (a | ⟨a, b⟩)
    · exact .inl a.symm
    · exact .inr ⟨a.symm, b.symm⟩
  · rintro (a | ⟨a, b⟩)
    · exact .inl a.symm
    · exact .inr ⟨a.symm, b.symm⟩
structure Vo (web : List (P3 Int Str Int)) (o : List Nat) : Prop where
  lt : ∀ x ∈ o, x < web.length
  nm : ∀ (j x : Nat), o[j]? = some x → cW (wo web o) j = cW web x
  pr : ∀ (j x : Nat), o[j]? = some x → ∀ y, y < x → stW web y x = true → ∃ i, i < j ∧ o[i]? = some y
theorem Vo.inj (v : Vo web o) (e : o[i]? = some x) (e' : o[j]? = some x) : i = j :=
  cW_inj ((hd_wo e).trans (hd_wo e').symm) ((v.nm _ _ e).trans (v.nm _ _ e').symm)
theorem Vo.mon (v : Vo web o) (hij : i < j) (e : o[i]? = some x) (e' : o[j]? = some y) (s : stW web x y = true) : x < y := by
  rcases Nat.lt_trichotomy x y with q | q | q
  · exact q
  · subst q
    have := v.inj e e'
    omega
  · obtain ⟨k, hk, ek⟩ := v.pr _ _ e y q (st_sym.mp s)
    have := v.inj ek e'
    omega
theorem o_get (hj : j < o.length) : ∃ x, o[j]? = some x := ⟨o[j], List.getElem?_eq_getElem hj⟩
theorem TWo (v : Vo web o) : ∀ (k j x : Nat), j < k → o[j]? = some x → ∀ h, TW (wo web o) j h = TW web x h
  | 0, j, x, hk, _ => by omega
  | k + 1, j, x, hk, e => fun h => by
    have ih := TWo v k
    by_cases c : h = hdW web x
    · subst c
      have e1 : TW (wo web o) j (hdW web x) = cW (wo web o) j + 1 := by rw [← hd_wo e]; exact TT_own
      have e2 : TW web x (hdW web x) = cW web x + 1 := TT_own
      rw [e1, e2, v.nm _ _ e]
    · rw [show TW web x h = supR (stW web) (TW web) x h x from TT_oth c, show TW (wo web o) j h = supR (stW (wo web o)) (TW (wo web o)) j h j from TT_oth (by rw [hd_wo e]; exact c)]
      refine Int.le_antisymm (supR_le supR_nn fun i hi hs => ?_) (supR_le supR_nn fun y hy hs => ?_)
      · have hj : j < o.length := (List.getElem?_eq_some_iff.mp e).1
        obtain ⟨z, ez⟩ := o_get (o := o) (j := i) (by omega)
        rw [st_wo ez e] at hs
        rw [ih i z (by omega) ez h]
        exact supR_ge (v.mon hi ez e hs) hs
      · obtain ⟨i, hi, ei⟩ := v.pr _ _ e y hy hs
        rw [← ih i y (by omega) ei h]
        exact supR_ge hi (by rw [st_wo ei e]; exact hs)
theorem TW_o (v : Vo web o) (e : o[j]? = some x) : TW (wo web o) j h = TW web x h := TWo v (j + 1) j x (Nat.lt_succ_self j) e h
theorem keep_iff2 (hij : i < j) : keepB web j i = true ↔ stW web i j = true ∧ hdW web i ≠ hdW web j ∧ ∀ y, y < j → y ≠ i → stW web y j = true → TW web y (hdW web i) ≤ cW web i := by
  rw [keep_iff hij]
  constructor
  · rintro ⟨a, b, k⟩
    refine ⟨a, b, fun y hy ne hs => Classical.byContradiction fun q => ?_⟩
    have := known_le (web := web) (i := i) (z := y) (by omega)
    have := k y (by omega) hy hs
    omega
  · rintro ⟨a, b, k⟩
    exact ⟨a, b, fun y h1 hy hs => k y hy (by omega) hs⟩
theorem nt_o (v : Vo web o) (e : o[i]? = some x) (e' : o[j]? = some y) : ntW (wo web o) j (i : Int) = ntW web y (x : Int) := by
  unfold ntW
  simp only [Int.toNat_natCast]
  rw [hd_wo e, hd_wo e', v.nm _ _ e, v.nm _ _ e']
theorem keep_o (v : Vo web o) (hij : i < j) (e : o[i]? = some x) (e' : o[j]? = some y) (hxy : x < y) : keepB (wo web o) j i = true ↔ keepB web y x = true := by
  have hj : j < o.length := (List.getElem?_eq_some_iff.mp e').1
  rw [keep_iff2 hij, keep_iff2 hxy, st_wo e e', hd_wo e, hd_wo e', v.nm _ _ e]
  constructor
  · rintro ⟨a, b, k⟩
    refine ⟨a, b, fun z hz ne hs => ?_⟩
    obtain ⟨l, hl, el⟩ := v.pr _ _ e' z hz hs
    have := k l hl (fun q => ne (by subst q; exact Option.some.inj (el.symm.trans e))) (by rw [st_wo el e']; exact hs)
    rwa [TW_o v el] at this
  · rintro ⟨a, b, k⟩
    refine ⟨a, b, fun l hl ne hs => ?_⟩
    obtain ⟨z, ez⟩ := o_get (o := o) (j := l) (by omega)
    rw [st_wo ez e'] at hs
    rw [TW_o v ez]
    exact k z (v.mon hl ez e' hs) (fun q => ne (v.inj ez (q ▸ e))) hs
theorem wo_perm (p : o.Perm (List.range web.length)) : (wo web o).Perm web := by
  have e : (List.range web.length).map (gW web) = web := by
    apply List.ext_getElem?
    intro m
    rw [List.getElem?_map]
    by_cases c : m < web.length
    · rw [List.getElem?_range c, gW_get c]; rfl
    · rw [List.getElem?_eq_none (by simpa using c), List.getElem?_eq_none (by omega)]; rfl
  have := p.map (gW web)
  rwa [e] at this
theorem wo_ok (hw : ∀ t ∈ web, ToOk t) (p : o.Perm (List.range web.length)) : ∀ t ∈ wo web o, ToOk t := fun t ht => hw t ((wo_perm p).mem_iff.mp ht)
theorem cn_lt {hd : Nat → Nat} {x c : Nat} : cn hd (hd x) x < cn hd (hd x) c ↔ x < c := by
  constructor
  · intro h
    apply Classical.byContradiction
    intro q
    have := cn_mono (hd := hd) (h := hd x) (y := c) (x := x) (by omega)
    omega
  · intro h
    have h1 := cn_mono (hd := hd) (h := hd x) (y := x + 1) (x := c) (by omega)
    have h2 := cn_own (hd := hd) (x := x)
    omega
theorem srt_fil {l m : List Note} {q : Note → Bool} (h : l.Perm (m.filter q)) : srtK l = (srtK m).filter q :=
  (srtK_of (((srtK_perm m).filter q).trans h.symm) ((srtK_srt m).filter q)).symm
/-- counted through -/
def sh (web : List (P3 Int Str Int)) (c : Nat) (e : Note) : Note := ⟨e.a, e.b + (cnt (web.take c) e.a : Int), e.c, e.d + (cnt (web.take c) e.c : Int)⟩
theorem sh_nam (hw : ∀ t ∈ web, ToOk t) (hc : c ≤ web.length) {p : Int × Int} (hp : p ∈ LP (web.drop c) (web.length - c)) : sh web c (namW (web.drop c) p) = namW web (p.1 + (c : Int), p.2 + (c : Int)) := by
  obtain ⟨i, j, rfl, h1, h2, _⟩ := mem_LP.mp hp
  have e1 : ((i : Int) + (c : Int)).toNat = c + i := by omega
  have e2 : ((j : Int) + (c : Int)).toNat = c + j := by omega
  unfold sh namW ntW
  dsimp only
  rw [e1, e2, Int.toNat_natCast, Int.toNat_natCast, cn_cnt hw _ c hc, cn_cnt hw _ c hc, hdW_drop, hdW_drop, cW_drop (j := i), cW_drop (j := j)]
  congr 1 <;> omega
theorem nam_take {p : Int × Int} (hp : p ∈ LP web c) : namW (web.take c) p = namW web p := by
  obtain ⟨i, j, rfl, h1, h2, _⟩ := mem_LP.mp hp
  unfold namW ntW
  dsimp only
  rw [Int.toNat_natCast, Int.toNat_natCast, hdW_take (by omega), hdW_take (by omega), cW_take (by omega), cW_take (by omega)]
theorem LP_front (hc : c ≤ web.length) : (LP web c).Perm ((LP web web.length).filter fun p => decide (p.2 < (c : Int))) := by
  refine (List.perm_ext_iff_of_nodup (LP_nd _) ((LP_nd _).filter _)).mpr fun p => ?_
  rw [List.mem_filter, mem_LP, mem_LP, decide_eq_true_eq]
  constructor
  · rintro ⟨i, j, rfl, h1, h2, h3⟩
    exact ⟨⟨i, j, rfl, h1, by omega, h3⟩, by dsimp only; omega⟩
  · rintro ⟨⟨i, j, rfl, h1, h2, h3⟩, h4⟩
    dsimp only at h4
    exact ⟨i, j, rfl, h1, by omega, h3⟩
/-- a note of the second half, told from the cut -/
def shN (C : Nat → Int) (t : Note) : Note := ⟨t.a, t.b - C t.a.toNat, t.c, t.d - C t.c.toNat⟩
theorem os_perm (hl : os.length = web.length) (lt : ∀ x ∈ os, x < web.length) (nd : os.Nodup) : os.Perm (List.range web.length) := by
  refine (List.perm_ext_iff_of_nodup nd List.nodup_range).mpr fun x => ?_
  rw [List.mem_range]
  refine ⟨lt x, fun hx => Classical.byContradiction fun no => ?_⟩
  have := nodup_len web.length (x :: os) (List.nodup_cons.mpr ⟨no, nd⟩) fun y hy => by
    rcases List.mem_cons.mp hy with rfl | h
    · exact hx
    · exact lt y h
  rw [List.length_cons] at this
  omega
end
section
variable {C : Nat → Int}
theorem key4 {t : Note} : Ktup.key t = [t.a, t.b, t.c, t.d] := rfl
theorem leK_sh {s t : Note} : leK (shN C s) (shN C t) = leK s t := by
  obtain ⟨a, b, c, d⟩ := s
  obtain ⟨a', b', c', d'⟩ := t
  unfold leK
  rw [key4, key4, key4, key4]
  unfold shN
  simp only [lexL]
  by_cases e : a' = a
  · subst e
    by_cases e2 : b' = b
    · subst e2
      by_cases e3 : c' = c
      · subst e3
        by_cases e4 : d' = d
        · subst e4; simp
        · have : ¬ d' - C c'.toNat = d - C c'.toNat := by omega
          simp [e4, this]
      · simp [e3]
    · have : ¬ b' - C a'.toNat = b - C a'.toNat := by omega
      simp [e2, this]
  · simp [e]
theorem srt_sh {l : List Note} : srtK (l.map (shN C)) = (srtK l).map (shN C) := by
  refine (srtK_of ((srtK_perm l).map _) ?_).symm
  exact List.pairwise_map.mpr ((srtK_srt l).imp fun h => by rw [leK_sh]; exact h)
end
section
variable {web : List (P3 Int Str Int)} {o : List Nat} {x y i j n c : Nat} {hd : Nat → Nat}
/-! names stay in an order that keeps what must come ahead -/
theorem cn_len (f : Nat → Nat) (h : Nat) : ∀ n, cn f h n = (((List.range n).filter fun y => decide (f y = h)).length : Int)
  | 0 => rfl
  | n + 1 => by
    rw [List.range_succ, List.filter_append, List.length_append]
    show cn f h n + (if f n = h then 1 else 0) = _
    rw [cn_len f h n]
    by_cases e : f n = h
    · rw [if_pos e, List.filter_cons_of_pos (by simpa using e)]; rfl
    · rw [if_neg e, List.filter_cons_of_neg (by simpa using e)]; rfl
theorem cn_wo (h : Nat) : ∀ j, j ≤ o.length → cn (hdW (wo web o)) h j = (((o.take j).filter fun y => decide (hdW web y = h)).length : Int)
  | 0, _ => rfl
  | j + 1, hj => by
    obtain ⟨x, ex⟩ := o_get (o := o) (j := j) (by omega)
    rw [take_snocN ex, List.filter_append, List.length_append]
    show cn (hdW (wo web o)) h j + (if hdW (wo web o) j = h then 1 else 0) = _
    rw [cn_wo h j (by omega), hd_wo ex]
    by_cases e : hdW web x = h
    · rw [if_pos e, List.filter_cons_of_pos (by simpa using e)]; rfl
    · rw [if_neg e, List.filter_cons_of_neg (by simpa using e)]; rfl
theorem Vo_of (hw : ∀ t ∈ web, ToOk t) (lt : ∀ x ∈ o, x < web.length) (nd : o.Nodup) (T : Topo web o) : Vo web o := by
  have split : ∀ (j x : Nat), o[j]? = some x → o = o.take j ++ x :: o.drop (j + 1) := fun j x e => by
    have hj := (List.getElem?_eq_some_iff.mp e).1
    rw [← drop_cons e, List.take_append_drop]
  have pr : ∀ (j x : Nat), o[j]? = some x → ∀ y, y < x → stW web y x = true → y ∈ o.take j := fun j x e y hy hs => by
    have hx := lt x (List.mem_of_getElem? e)
    refine T _ x _ (split j x e) y hy ?_
    rw [stW_S hw (by omega) hx] at hs
    exact hs
  refine ⟨lt, fun j x e => ?_, fun j x e y hy hs => ?_⟩
  · have hj := (List.getElem?_eq_some_iff.mp e).1
    show cn (hdW (wo web o)) (hdW (wo web o) j) j = cn (hdW web) (hdW web x) x
    rw [hd_wo e, cn_wo _ j (by omega), cn_len]
    congr 1
    refine List.Perm.length_eq ((List.perm_ext_iff_of_nodup ((nd.sublist (List.take_sublist j o)).filter _) (List.nodup_range.filter _)).mpr fun y => ?_)
    rw [List.mem_filter, List.mem_filter, List.mem_range, decide_eq_true_eq]
    refine ⟨fun ⟨h1, h2⟩ => ⟨?_, h2⟩, fun ⟨h1, h2⟩ => ⟨pr j x e y h1 (hst_W y x h2), h2⟩⟩
    refine Classical.byContradiction fun q => ?_
    have hne : y ≠ x := fun e2 => by
      subst e2
      have := split j y e
      rw [this] at nd
      exact (List.nodup_append.mp nd).2.2 y h1 y List.mem_cons_self rfl
    obtain ⟨i, hi, ei⟩ := List.mem_take_iff_getElem.mp h1
    have hil : i < o.length := by omega
    have ey : o[i]? = some y := by rw [List.getElem?_eq_getElem hil, ei]
    have := pr i y ey x (by omega) (hst_W x y h2.symm)
    obtain ⟨k, hk, ek⟩ := List.mem_take_iff_getElem.mp this
    have ex : o[k]? = some x := by rw [List.getElem?_eq_getElem (show k < o.length by omega), ek]
    have := (List.getElem?_inj (show k < o.length by omega) nd).mp (ex.trans e.symm)
    omega
  · obtain ⟨i, hi, ei⟩ := List.mem_take_iff_getElem.mp (pr j x e y hy hs)
    exact ⟨i, by omega, by rw [List.getElem?_eq_getElem (show i < o.length by omega), ei]⟩
/-! the notes stay -/
theorem DP_nd (hw : ∀ t ∈ web, ToOk t) : (DP web web.length).Nodup := by
  refine (DP_perm web.length).nodup_iff.mpr (nd_map (fun p hp q hq e => ?_) (LP_nd _))
  rw [nam_N hw (LP_st p hp), nam_N hw (LP_st q hq)] at e
  exact ntN_inj hw (LP_st p hp) (LP_st q hq) e
theorem mem_DP {t : Note} : t ∈ DP web n ↔ ∃ i j : Nat, i < j ∧ j < n ∧ keepB web j i = true ∧ t = ntW web j (i : Int) := by
  rw [(DP_perm n).mem_iff, List.mem_map]
  constructor
  · rintro ⟨p, hp, rfl⟩
    obtain ⟨i, j, rfl, h1, h2, h3⟩ := mem_LP.mp hp
    exact ⟨i, j, h1, h2, h3, by unfold namW; rw [Int.toNat_natCast]⟩
  · rintro ⟨i, j, h1, h2, h3, rfl⟩
    exact ⟨_, mem_LP.mpr ⟨i, j, rfl, h1, h2, h3⟩, by unfold namW; rw [Int.toNat_natCast]⟩
theorem TL_o (hw : ∀ t ∈ web, ToOk t) (v : Vo web o) (p : o.Perm (List.range web.length)) : TL (wo web o) = TL web := by
  have hl : (wo web o).length = web.length := (wo_perm p).length_eq
  have hol : o.length = web.length := by have := p.length_eq; simpa using this
  refine srtK_eq ((List.perm_ext_iff_of_nodup (DP_nd (wo_ok hw p)) (DP_nd hw)).mpr fun t => ?_)
  rw [mem_DP, mem_DP, hl]
  constructor
  · rintro ⟨i, j, hij, hj, hk, rfl⟩
    obtain ⟨y, ey⟩ := o_get (o := o) (j := i) (by omega)
    obtain ⟨x, ex⟩ := o_get (o := o) (j := j) (by omega)
    have hs := ((keep_iff hij).mp hk).1
    rw [st_wo ey ex] at hs
    have hyx := v.mon hij ey ex hs
    exact ⟨y, x, hyx, v.lt x (List.mem_of_getElem? ex), (keep_o v hij ey ex hyx).mp hk, nt_o v ey ex⟩
  · rintro ⟨y, x, hyx, hx, hk, rfl⟩
    have hm : x ∈ o := p.mem_iff.mpr (List.mem_range.mpr hx)
    obtain ⟨j, hj, ej⟩ := List.mem_iff_getElem.mp hm
    have ex : o[j]? = some x := by rw [List.getElem?_eq_getElem hj, ej]
    obtain ⟨i, hi, ey⟩ := v.pr j x ex y hyx ((keep_iff hyx).mp hk).1
    exact ⟨i, j, hi, by omega, (keep_o v hi ey ex hyx).mpr hk, (nt_o v ey ex).symm⟩
/-! few notes -/
theorem frs_few : (frs web j j).length ≤ 8 ∨ ∃ x, x < j ∧ 8 ≤ hdW web x := by
  by_cases hx : ∀ x, x < j → hdW web x < 8
  · refine .inl ?_
    rw [frs_all.length_eq]
    have q := nodup_len 8 (((rng 0 (j : Int)).filter (keepZ web j)).map fun z => hdW web z.toNat) ?_ ?_
    · rwa [List.length_map] at q
    · refine nd_map (fun a ha b hb e => ?_) (((rng_pw 0 (j : Int)).imp fun h => by omega).filter _)
      obtain ⟨a1, ka⟩ := List.mem_filter.mp ha
      obtain ⟨b1, kb⟩ := List.mem_filter.mp hb
      obtain ⟨a0, a2⟩ := rng_mem.mp a1
      obtain ⟨b0, b2⟩ := rng_mem.mp b1
      have one : ∀ u v : Nat, u < v → v < j → hdW web u = hdW web v → keepB web j u = true → keepB web j v = true → False := fun u v huv hv eh ku kv => by
        have h1 := ((keep_iff (by omega)).mp ku).2.2 v huv hv ((keep_iff hv).mp kv).1
        rw [eh, show TW web v (hdW web v) = TT (hdW web) (stW web) v (hdW web v) from rfl, TT_own] at h1
        have h2 := cn_mono (hd := hdW web) (h := hdW web u) (y := u + 1) (x := v) (by omega)
        rw [cn_own, eh] at h2
        have e3 : cW web u = cn (hdW web) (hdW web v) u := by rw [← eh]
        omega
      rcases Nat.lt_trichotomy a.toNat b.toNat with q | q | q
      · exact (one _ _ q (by omega) e ka kb).elim
      · omega
      · exact (one _ _ q (by omega) e.symm kb ka).elim
    · intro z hz
      obtain ⟨a, ha, rfl⟩ := List.mem_map.mp hz
      obtain ⟨a0, a1⟩ := rng_mem.mp (List.mem_filter.mp ha).1
      exact hx _ (by omega)
  · refine .inr ?_
    simp only [Classical.not_forall] at hx
    obtain ⟨x, h1, h2⟩ := hx
    exact ⟨x, h1, by omega⟩
theorem DP_few (hw : ∀ t ∈ web, ToOk t) : ∀ n, n ≤ web.length → (DP web n).length ≤ n * 8
  | 0, _ => Nat.le_refl _
  | j + 1, h => by
    have q := DP_few hw j (by omega)
    have q2 : (frs web j j).length ≤ 8 := by
      rcases frs_few (web := web) (j := j) with r | ⟨x, h1, h2⟩
      · exact r
      · have := hdW_8 hw (x := x) (by omega)
        omega
    show (DP web j ++ (frs web j j).map (ntW web j)).length ≤ _
    rw [List.length_append, List.length_map]
    omega
theorem TL_few (hw : ∀ t ∈ web, ToOk t) (hl : web.length ≤ 300) : (TL web).length ≤ 2400 := by
  unfold TL
  rw [(srtK_perm _).length_eq]
  have := DP_few hw _ (Nat.le_refl _)
  omega
/-! the parts of a web -/
def cC (web : List (P3 Int Str Int)) (c : Nat) (h : Nat) : Int := (cnt (web.take c) (h : Int) : Int)
theorem early (hw : ∀ t ∈ web, ToOk t) (hc : c ≤ web.length) : TL (web.take c) = (TL web).filter fun t => decide (t.d < cC web c t.c.toNat) := by
  refine srt_fil ?_
  have e1 : (web.take c).length = c := by rw [List.length_take]; omega
  rw [e1]
  refine (DP_perm c).trans ?_
  rw [LP_take hc, show (LP web c).map (namW (web.take c)) = (LP web c).map (namW web) from List.map_congr_left fun p hp => nam_take hp]
  refine ((LP_front hc).map _).trans (List.Perm.trans ?_ ((DP_perm web.length).filter _).symm)
  rw [List.filter_map]
  rw [List.filter_congr (p := (fun t : Note => decide (t.d < cC web c t.c.toNat)) ∘ namW web) (q := fun p => decide (p.2 < (c : Int))) fun p hp => ?_]
  · obtain ⟨i, j, rfl, h1, h2, _⟩ := mem_LP.mp hp
    show decide ((namW web ((i : Int), (j : Int))).d < cC web c (namW web ((i : Int), (j : Int))).c.toNat) = decide ((j : Int) < (c : Int))
    unfold namW ntW cC
    dsimp only
    rw [Int.toNat_natCast, Int.toNat_natCast, cn_cnt hw _ c hc]
    exact decide_eq_decide.mpr (by rw [show ((j : Int) < (c : Int)) ↔ j < c by omega]; exact cn_lt)
theorem shN_sh (e : P4 Int Int Int Int) (h0 : 0 ≤ e.a) (h1 : 0 ≤ e.c) : shN (cC web c) (sh web c e) = e := by
  obtain ⟨a, b, d, f⟩ := e
  unfold shN sh cC
  dsimp only at h0 h1 ⊢
  rw [show ((a.toNat : Nat) : Int) = a by omega, show ((d.toNat : Nat) : Int) = d by omega]
  congr 1 <;> omega
theorem late (hw : ∀ t ∈ web, ToOk t) (hc : c ≤ web.length) : TL (web.drop c) = ((TL web).filter fun t => decide (t.b ≥ cC web c t.a.toNat) && decide (t.d ≥ cC web c t.c.toNat)).map (shN (cC web c)) := by
  have e1 : (web.drop c).length = web.length - c := List.length_drop
  have h2 : (DP (web.drop c) (web.length - c)).Perm (((DP web web.length).filter fun t => decide (t.b ≥ cC web c t.a.toNat) && decide (t.d ≥ cC web c t.c.toNat)).map (shN (cC web c))) := by
    refine (DP_perm _).trans ?_
    rw [show (LP (web.drop c) (web.length - c)).map (namW (web.drop c)) = (((LP (web.drop c) (web.length - c)).map fun p => (p.1 + (c : Int), p.2 + (c : Int))).map (namW web)).map (shN (cC web c)) by
      rw [List.map_map, List.map_map]
      refine List.map_congr_left fun p hp => ?_
      show _ = shN (cC web c) (namW web (p.1 + (c : Int), p.2 + (c : Int)))
      rw [← sh_nam hw hc hp, shN_sh _ (by unfold namW ntW; dsimp only; omega) (by unfold namW ntW; dsimp only; omega)]]
    refine List.Perm.map _ (((LP_drop hc).map _).trans (List.Perm.trans ?_ ((DP_perm web.length).filter _).symm))
    rw [List.filter_map]
    rw [List.filter_congr (p := (fun t : Note => decide (t.b ≥ cC web c t.a.toNat) && decide (t.d ≥ cC web c t.c.toNat)) ∘ namW web) (q := fun p => decide ((c : Int) ≤ p.1)) fun p hp => ?_]
    · obtain ⟨i, j, rfl, h1, h2, _⟩ := mem_LP.mp hp
      show (decide ((namW web ((i : Int), (j : Int))).b ≥ cC web c (namW web ((i : Int), (j : Int))).a.toNat) && decide ((namW web ((i : Int), (j : Int))).d ≥ cC web c (namW web ((i : Int), (j : Int))).c.toNat)) = decide ((c : Int) ≤ (i : Int))
      unfold namW ntW cC
      dsimp only
      have b1 := cn_cnt hw (hdW web i) c hc
      have b2 := cn_cnt hw (hdW web j) c hc
      have a1 := cn_lt (hd := hdW web) (x := i) (c := c)
      have a2 := cn_lt (hd := hdW web) (x := j) (c := c)
      rw [← Bool.decide_and]
      refine decide_eq_decide.mpr ?_
      show cn (hdW web) (hdW web i) i ≥ (cnt (web.take c) ((hdW web i : Nat) : Int) : Int) ∧ cn (hdW web) (hdW web j) j ≥ (cnt (web.take c) ((hdW web j : Nat) : Int) : Int) ↔ _
      rw [b1, b2]
      omega
  unfold TL
  rw [e1, srtK_eq h2, srt_sh]
  congr 1
  exact srt_fil (List.Perm.refl _)
end
end M

/-! # k29: the law -/
namespace M
open PySem L2 Z
section
variable {web : List (P3 Int Str Int)} {c : Nat}
theorem szN {n : Nat} (h : n ≤ 100000) : n ≤ sizeLine := Nat.le_trans h (by decide)
theorem rows_wp {l d : List Note} {Φ : Bool → Prop} (e : l = d) (hl : l.length ≤ 100000) (k : Φ true) : (m_law_rows l d).run Φ := by
  subst e
  unfold m_law_rows
  simp only [run_if, run_rt, run_bind, run_guard]
  rw [if_neg (by simp)]
  refine forC_wp (fun _ _ => True) trivial ?_ ?_
  · intro t x s hx _
    unfold m_law_rows_L1
    simp only [run_if, run_rt, run_bind, Bool.not_true, Bool.false_eq_true, if_false]
    refine compG_wp (fun _ => true) (fun _ => true) (szN (by simp)) (fun _ _ Ψ q => by exact q) (fun _ _ _ Ψ q => by unfold m_law_whole; exact q) ?_
    simp only [List.map_cons, List.map_nil, List.filter_cons, List.filter_nil, if_true, List.all_cons, List.all_nil, id_eq, Bool.and_true, Bool.not_true, Bool.false_eq_true, if_false, run_rt, run_if]
    exact trivial
  · intro s _
    simp only [W.after, run_guard, run_rt]
    exact ⟨⟨okD_pl _, okD_pl _⟩, by rw [eqD_self]; exact k⟩
def mny (web : List (P3 Int Str Int)) (c : Nat) : List Int := (rng 0 8).map fun h : Int => (cnt (web.take c) h : Int)
theorem mny_at {h : Int} (h0 : 0 ≤ h) (h8 : h < 8) : atI (mny web c) h = some (cC web c h.toNat) := by
  obtain ⟨m, rfl⟩ : ∃ m : Nat, h = m := ⟨h.toNat, by omega⟩
  have e := mapR_at (n := 8) (j := m) (f := fun j => (cnt (web.take c) (j : Int) : Int)) (by omega)
  have e2 : mny web c = mapR 8 fun j => (cnt (web.take c) (j : Int) : Int) := by
    unfold mny
    rw [show rng 0 8 = mapR 8 fun j => (j : Int) from rng_mapR (n := 8)]
    unfold mapR
    rw [List.map_map]
    rfl
  rw [e2, e]
  rfl
theorem TL_hands (hw : ∀ t ∈ web, ToOk t) : ∀ e ∈ TL web, 0 ≤ e.a ∧ e.a < 8 ∧ 0 ≤ e.c ∧ e.c < 8 := fun e he => by
  obtain ⟨i, j, h1, h2, _, rfl⟩ := mem_DP.mp ((srtK_perm _).mem_iff.mp he)
  have a1 := hdW_8 hw (show i < web.length by omega)
  have a2 := hdW_8 hw h2
  unfold ntW
  dsimp only
  rw [Int.toNat_natCast]
  exact ⟨by omega, by omega, by omega, by omega⟩
theorem parts_wp {cut : Int} {Φ : List (List Note) → Prop} (hw : ∀ t ∈ web, ToOk t) (hl : web.length ≤ 300) (h0 : 0 ≤ cut) (hc : cut ≤ web.length) (k : Φ [TL (web.take cut.toNat), TL (web.drop cut.toNat)]) : (m_law_parts web (TL web) cut).run Φ := by
  obtain ⟨c, rfl⟩ : ∃ c : Nat, cut = c := ⟨cut.toNat, by omega⟩
  rw [Int.toNat_natCast] at k
  have hf := TL_few hw hl
  have hh := TL_hands hw
  rw [early hw (show c ≤ web.length by omega), late hw (show c ≤ web.length by omega)] at k
  unfold m_law_parts
  simp only [run_if, run_rt, run_bind, run_guard]
  refine ⟨⟨by decide, by decide, by decide, by decide⟩, ?_⟩
  have tl : (web.take c).length ≤ 300 := by rw [List.length_take]; omega
  rw [cut_to (by omega), Int.toNat_natCast]
  refine compG_wp (fun _ => true) (fun h : Int => (cnt (web.take c) h : Int)) (szN (by decide)) (fun _ _ Ψ q => by exact q) (fun h _ _ Ψ q => ?_) ?_
  · refine compG_wp (fun t : P3 Int Str Int => decide (t.a = h)) (fun _ => (1 : Int)) (szN (by omega)) (fun _ _ Ψ q => by exact q) (fun _ _ _ Ψ q => by exact q) ?_
    show Ψ _
    rw [List.length_map]
    exact q
  · rw [List.filter_eq_self.mpr fun _ _ => rfl]
    show (compG (TL web) _ _).run _
    have em : (rng 0 8).map (fun h : Int => (cnt (web.take c) h : Int)) = mny web c := rfl
    rw [em]
    refine compG_wp (fun t : Note => decide (t.d < cC web c t.c.toNat)) (fun t => t) (szN (by omega)) (fun t ht Ψ q => ?_) (fun _ _ _ Ψ q => by exact q) ?_
    · have := hh t ht
      rw [mny_at (by omega) (by omega)]
      exact ⟨_, rfl, q⟩
    · rw [List.map_id']
      refine forL_wp (fun n s => s = (((TL web).take n).filter fun t => decide (t.b ≥ cC web c t.a.toNat) && decide (t.d ≥ cC web c t.c.toNat)).map (shN (cC web c))) rfl ?_ ?_
      · rintro n t s hx rfl
        have ht := hh t (List.mem_of_getElem? hx)
        have hn := (List.getElem?_eq_some_iff.mp hx).1
        have e1 := mny_at (web := web) (c := c) (h := t.a) (by omega) (by omega)
        have e2 := mny_at (web := web) (c := c) (h := t.c) (by omega) (by omega)
        unfold m_law_parts_L1
        simp only [run_if, run_rt, run_bind, run_opt, e1, e2, Option.some.injEq, exists_eq_left']
        rw [take_snocN hx, List.filter_append, List.map_append]
        have hlen : ((((TL web).take n).filter fun t => decide (t.b ≥ cC web c t.a.toNat) && decide (t.d ≥ cC web c t.c.toNat)).map (shN (cC web c))).length ≤ 100000 := by
          rw [List.length_map]
          have := List.length_filter_le (fun t : Note => decide (t.b ≥ cC web c t.a.toNat) && decide (t.d ≥ cC web c t.c.toNat)) ((TL web).take n)
          rw [List.length_take] at this
          omega
        generalize ((((TL web).take n).filter fun t => decide (t.b ≥ cC web c t.a.toNat) && decide (t.d ≥ cC web c t.c.toNat)).map (shN (cC web c))) = L at hlen ⊢
        by_cases c1 : t.b ≥ cC web c t.a.toNat
        · rw [if_pos (decide_eq_true c1)]
          by_cases c2 : t.d ≥ cC web c t.c.toNat
          · rw [if_pos (decide_eq_true c2), List.filter_cons_of_pos (by rw [decide_eq_true c1, decide_eq_true c2]; rfl)]
            exact apd_wp hlen rfl
          · rw [if_neg (by simpa using c2), List.filter_cons_of_neg (by rw [decide_eq_false c2, Bool.and_false]; decide)]
            exact (List.append_nil _).symm
        · rw [if_neg (by simpa using c1), if_neg (by decide), List.filter_cons_of_neg (by rw [decide_eq_false c1]; simp)]
          exact (List.append_nil _).symm
      · rintro s rfl
        rw [List.take_length]
        exact k
theorem take_ok (hw : ∀ t ∈ web, ToOk t) : ∀ t ∈ web.take c, ToOk t := fun t ht => hw t (List.mem_of_mem_take ht)
theorem drop_ok (hw : ∀ t ∈ web, ToOk t) : ∀ t ∈ web.drop c, ToOk t := fun t ht => hw t (List.mem_of_mem_drop ht)
theorem dd_nd {l : List Note} (h : l.Nodup) : srtK (ddK (srtK l)) = srtK l := by
  refine srtK_eq ((List.perm_ext_iff_of_nodup (ddK_nd _) h).mpr fun x => ?_)
  rw [ddK_mem]
  exact (srtK_perm l).mem_iff
end
theorem law_true {ns : List Int} (hl : ns.length ≤ 63) : (m_law ns).run (fun r => r = true) := by
  unfold m_law
  simp only [run_bind, run_bind2, run_rt, run_guard]
  refine spring_wp hl fun sp hsp => ?_
  refine web_wp hsp (by decide) (by decide) (by decide) fun web sp1 hw hl2 hsp1 => ?_
  dsimp only
  have hl3 : web.length ≤ 300 := hw.2
  refine notesP_wp hw.1 hl3 ?_
  show (TL web).length < 4000 ∧ _
  have hf := TL_few hw.1 hl3
  refine ⟨by omega, ?_⟩
  have ed : srtK (ddK (srtK (DP web web.length))) = TL web := dd_nd (DP_nd hw.1)
  rw [ed]
  refine rows_wp rfl (show (TL web).length ≤ _ by omega) ?_
  have okw : okD web := okD_of (show ∀ t ∈ web, Lay.ok t from fun t ht => to_lay (hw.1 t ht))
  simp only [run_if, run_rt, run_guard, run_bind, Bool.not_true, Bool.false_eq_true, if_false]
  refine ⟨⟨okw, okw⟩, ?_⟩
  rw [eqD_self]
  simp only [Bool.not_true, Bool.false_eq_true, if_false]
  generalize hm : (1 : Int) + (if (3 : Int) < (ns.length : Int) then (3 : Int) else (ns.length : Int)) = m
  have hm8 : 0 ≤ m ∧ m ≤ 4 := by rw [← hm]; split <;> omega
  refine ⟨⟨by decide, by decide, by omega, by omega⟩, ?_⟩
  refine forC_wp (fun i s => SpOk (2000 + 1000 * i) s) (hsp1.mo (by decide)) ?_ ?_
  · intro i x s hx hs
    have hi := (List.getElem?_eq_some_iff.mp hx).1
    rw [rng_len] at hi
    unfold m_law_L1
    simp only [run_bind, run_bind2, run_rt]
    refine free_wp hs (by omega) hl3 fun os s1 o1 o2 o3 o4 hs1 => ?_
    dsimp only
    refine compG_wp (fun _ => true) (fun p => gW web p.toNat) (szN (by rw [casts_len]; omega)) (fun _ _ Ψ q => by exact q) (fun p hp _ Ψ q => ?_) ?_
    · unfold casts at hp
      obtain ⟨a, ha, rfl⟩ := List.mem_map.mp hp
      rw [Int.toNat_natCast] at q
      rw [gW_at (o2 a ha)]
      exact ⟨_, rfl, q⟩
    · rw [List.filter_eq_self.mpr fun _ _ => rfl]
      have et : (casts os).map (fun p => gW web p.toNat) = wo web os := by
        unfold casts wo
        rw [List.map_map]
        exact List.map_congr_left fun x _ => by show gW web ((x : Int)).toNat = _; rw [Int.toNat_natCast]
      rw [et]
      have v : Vo web os := Vo_of hw.1 o2 o3 o4
      have pm : os.Perm (List.range web.length) := os_perm o1 o2 o3
      have ok2 := wo_ok hw.1 pm
      have l2 : (wo web os).length ≤ 300 := by rw [wo_len]; omega
      have e2 : TL (wo web os) = TL web := TL_o hw.1 v pm
      refine notesP_wp ok2 l2 ?_
      refine rows_wp e2 (by show (TL (wo web os)).length ≤ _; rw [e2]; omega) ?_
      simp only [run_if, run_rt, run_bind, Bool.not_true, Bool.false_eq_true, if_false]
      show (m_enough (wo web os) (TL web)).run _
      rw [← e2]
      refine enoughL_wp ok2 l2 (TL_nt ok2) (by rw [e2]; omega) ?_
      rw [has_TL ok2, decide_eq_true (fun _ h => h)]
      simp only [decide_true, Bool.not_true, Bool.false_eq_true, if_false, run_bind2, run_bind, run_rt]
      refine draw_wp hs1 (by omega) (by omega) (by omega) fun cut s2 d0 d1 hs2 => ?_
      dsimp only
      show (m_law_parts web (TL web) cut).run _
      refine parts_wp hw.1 hl3 d0 (by omega) ?_
      simp only [run_opt, run_bind]
      refine ⟨_, rfl, ?_⟩
      dsimp only
      rw [cut_to d0, cut_from d0]
      have lt : (web.take cut.toNat).length ≤ 300 := by rw [List.length_take]; omega
      have ld : (web.drop cut.toNat).length ≤ 300 := by rw [List.length_drop]; omega
      have ft := TL_few (take_ok (c := cut.toNat) hw.1) lt
      have fd := TL_few (drop_ok (c := cut.toNat) hw.1) ld
      refine notesP_wp (take_ok hw.1) lt (rows_wp rfl (show (TL (web.take cut.toNat)).length ≤ _ by omega) ?_)
      simp only [run_if, run_rt, run_bind, Bool.not_true, Bool.false_eq_true, if_false]
      refine notesP_wp (drop_ok hw.1) ld (rows_wp rfl (show (TL (web.drop cut.toNat)).length ≤ _ by omega) ?_)
      simp only [run_if, run_rt, run_bind, Bool.not_true, Bool.false_eq_true, if_false]
      exact hs2.mo (by omega)
  · intro s hs
    simp only [W.after, run_rt]
end M

namespace M
open PySem L2 Z
section
def topS (i : Nat) : Stmt := PySem.Challenge.pw_fewnotes_k29_whole_notes_in_other_orders.main.body.getD i (.Pass ⟨0, 0, 0, 0⟩)
variable {P : Program} {w : World} {K : PySem.W.Frag} {mg : Str → Option Value} {base : Heap} {cl : Nat → Addr}
def sp_names (K : PySem.W.Frag) (cl : Nat → Addr) : Sp := fun vs H Q E => ∃ (amb : Grp) (Ho : Hp) (v0 : V) (x0 : (List (P3 Int Str Int))), vs = [v0] ∧ Zs amb H Ho ∧ LV K amb Ho v0 x0 ∧ (m_names x0).run fun r => ∀ v H' Ho', Same Ho Ho' → Zs amb H' Ho' → Z.D K Ho' v r → Q v H'
abbrev s_names : Stmt := topS 5
theorem sc_names : FnScope ["web", "many", "found", "hand", "kind", "cell"] ["web"] (defScope s_names) := ⟨rfl, rfl, rfl, by decide +kernel, rfl, by decide +kernel, by decide +kernel⟩
theorem ok_names {f : Addr} {fd : FuncData} (F : Fun K "names" "names" s_names f fd) {tk_HANDS : Tok} (g_HANDS : mg "HANDS" = some (.int 8 tk_HANDS)) :
    FnOk P w K mg base CX0 1 f fd ["web"] (sp_names K cl) := by
  refine F.ok sc_names (fun vs H Q E h => ?_) (fun cdv A outer s H vs Q E hr h => ?_)
  · obtain ⟨amb, Ho, v_web_, web_, rfl, _⟩ := h
    rfl
  · obtain ⟨amb, Ho, v_web_, web_, rfl, z, d_web_, hw⟩ := h
    refine ⟨_, pss_cons (ps_set (i := 1) sc_names.nd rfl (Or.inl rfl) (pe_op op_rep (pe_lst (pa_cons (pe_int) (pa_nil))) (pe_glob (v := .int 8) rfl g_HANDS ⟨_, rfl⟩))) (pss_cons (ps_set (i := 2) sc_names.nd rfl (Or.inl rfl) (pe_lst (pa_nil))) (pss_cons (ps_for PassesOwn.never rfl (zpi_list (K := K) rfl (pv 0)) (zpg_tup (K := K) (n := 3) rfl rfl (pgs_cons (pg_name (i := 3) sc_names.nd rfl (Or.inl rfl)) (pgs_cons (pg_name (i := 4) sc_names.nd rfl (Or.inl rfl)) (pgs_cons (pg_name (i := 5) sc_names.nd rfl (Or.inl rfl)) (pgs_nil))))) (pss_cons (ps_expr (pe_bm PySem.F.plainAttrs_list PySem.F.slot_list_append PySem.F.type_list_append mt_append (pv 2) (pa_cons (pe_tup (pa_cons (pv 3) (pa_cons (pe_ix (zix_list (K := K) rfl) (pv 1) (pv 3) (fun _ _ => rfl)) (pa_nil)))) (pa_nil)))) (pss_cons (ps_augS (pv 1) (pv 3) (zget_list (K := K) rfl) (pe_int) ip_add set_list) (pss_nil)))) (pss_cons (ps_ret (pv 2)) (pss_nil)))), ?_⟩
    refine l_asg (fun v => [_, some v, _, _, _, _]) (fun _ => rfl) ?_
    refine y_op ?_
    refine k_lst ?_
    refine y_cons ?_
    refine y_c ?_
    refine y_nil ?_
    refine k_lstk (K := K) (xs := ([(0 : Int)] : (List Int))) z (DqAll.cons (Dq.int _) DqAll.nil) (by show 1 ≤ sizeLine; decide) (fun H p1 ws2 z d3 => ?_)
    replace z : Zs ([(p1, HO.lst ws2)] ++ amb) H Ho := z
    have o4 := OL.mk (p := p1) d3
    refine y_c ?_
    refine y_rep z d3 hw.1 (fun H p5 ws6 z d7 => ?_)
    replace hw := (run_gd hw).2
    replace z : Zs ([(p5, HO.lst ws6)] ++ amb) H Ho := z
    have o8 := OL.mk (p := p5) d7
    refine l_o hw z o8 (fun many_ v_many_ g_many_ z d_many_ hw => ?_)
    refine l_asg (fun v => [_, _, some v, _, _, _]) (fun _ => rfl) ?_
    refine k_lst ?_
    refine y_nil ?_
    refine k_lstk (K := K) (xs := ([] : (List (Int × Int)))) z DqAll.nil (by show 0 ≤ sizeLine; decide) (fun H p9 ws10 z d11 => ?_)
    replace z : Zs ([(p9, HO.lst ws10)] ++ (g_many_ ++ amb)) H Ho := z
    have o12 := OL.mk (p := p9) d11
    refine l_o hw z o12 (fun found_ v_found_ g_found_ z d_found_ hw => ?_)
    refine y_for ?_
    refine k_iList ?_
    refine y_var rfl ?_
    refine k_srcL (r0 := amb) (LV.sub d_web_ mgE) (mgS (mgS mgE)) z (fun J T => ?_)
    refine y_forL T hw (fun (s : (List Int) × (List (Int × Int))) (σ : L2.St) (H Ho : Hp) => ∃ (g_many_ : Grp) (g_found_ : Grp) (y_hand_ : Option V) (y_kind_ : Option V) (y_cell_ : Option V), σ = [some v_web_, some v_many_, some v_found_, y_hand_, y_kind_, y_cell_] ∧ Zs (g_found_ ++ (g_many_ ++ amb)) H Ho ∧ OL K Ho v_many_ s.1 g_many_ ∧ OL K Ho v_found_ s.2 g_found_) ⟨_, _, _, _, _, rfl, z, d_many_, d_found_⟩ ?_ ?_ ?_ ?_
    · intro s σ H Ho hI
      obtain ⟨many_, found_⟩ := s
      obtain ⟨g_many_, g_found_, y_hand_, y_kind_, y_cell_, rfl, z, d_many_, d_found_⟩ := hI
      exact ⟨_, z, (mgS (mgS mgE))⟩
    · intro s σ H Ho H2 Ho2 hI e t
      obtain ⟨many_, found_⟩ := s
      obtain ⟨g_many_, g_found_, y_hand_, y_kind_, y_cell_, rfl, z, d_many_, d_found_⟩ := hI
      exact ⟨_, _, _, _, _, rfl, t _ z, OL.mo d_many_ e, OL.mo d_found_ e⟩
    · intro a x s σ H Ho N e hI dx hw
      obtain ⟨many_, found_⟩ := s
      obtain ⟨g_many_, g_found_, y_hand_, y_kind_, y_cell_, rfl, z, d_many_, d_found_⟩ := hI
      have es13 := (Same.refl _).trans e
      obtain ⟨hand_, kind_, cell_⟩ := a
      refine c_gt3 (fun v_hand_ v_kind_ v_cell_ => [some v_web_, some v_many_, some v_found_, some v_hand_, some v_kind_, some v_cell_]) (fun _ _ _ => rfl) dx z (fun v_hand_ v_kind_ v_cell_ d_hand_ d_kind_ d_cell_ => ?_)
      obtain rfl := d_int d_hand_
      obtain rfl := d_str d_kind_
      obtain rfl := d_int d_cell_
      refine y_drop ?_
      refine y_bm ?_
      refine y_var rfl ?_
      refine g_tyL (OL.lv d_found_ mg0) z ?_
      refine y_cons ?_
      refine k_tup ?_
      refine y_cons ?_
      refine y_var rfl ?_
      refine y_cons ?_
      refine y_op ?_
      refine y_var rfl ?_
      refine y_var rfl ?_
      refine y_ixL (OL.lv d_many_ (mgS mg0)) z hw (fun t14 w d15 hw => ?_)
      first | obtain rfl := d_int d15 | cases d_int d15
      refine y_nil ?_
      refine k_tupk (K := K) (x := (hand_, t14)) z (by show 2 ≤ sizeLine; decide) _ rfl (DqAll.cons (Dq.int _) (DqAll.cons (Dq.int _) DqAll.nil)) (fun p H Ho e z d16 => ?_)
      replace d_found_ := OL.mo d_found_ e
      replace d_many_ := OL.mo d_many_ e
      have es17 := (Same.refl _).trans e
      refine y_nil ?_
      refine g_app z d_found_ d16 hw (fun found_ g_found_ H z d_found_ hw => ?_)
      refine y_augS ?_
      refine y_var rfl ?_
      refine y_var rfl ?_
      refine y_ixL (OL.lv d_many_ (mgS mg0)) z hw (fun t18 w d19 hw => ?_)
      obtain rfl := d_int d19
      refine y_c ?_
      refine y_ip ?_
      replace z : Zs (g_many_ ++ (g_found_ ++ amb)) _ _ := z.go [g_found_, g_many_] amb [1, 0]
      refine g_sti z d_many_ (Dq.int _) hw (fun many_ g_many_ H z d_many_ hw => ?_)
      replace z : Zs (g_found_ ++ (g_many_ ++ amb)) _ _ := z.go [g_many_, g_found_] amb [1, 0]
      exact (run_ret hw) _ _ _ es17 ⟨_, _, _, _, _, rfl, z, d_many_, d_found_⟩
    intro s σ H Ho e hI hw
    obtain ⟨many_, found_⟩ := s
    obtain ⟨g_many_, g_found_, y_hand_, y_kind_, y_cell_, rfl, z, d_many_, d_found_⟩ := hI
    have es20 := (Same.refl _).trans e
    refine y_ret ?_
    refine y_var rfl ?_
    refine l_fr d_found_ z (fun Ho e z d_found_ => ?_)
    replace d_many_ := OL.mo d_many_ e
    have es21 := es20.trans e
    replace z : Zs amb _ _ := z.go [g_many_] amb []
    exact (run_ret hw) _ _ _ es21 z d_found_
def sp_places_of (K : PySem.W.Frag) (cl : Nat → Addr) : Sp := fun vs H Q E => ∃ (amb : Grp) (Ho : Hp) (v0 : V) (x0 : (List (P3 Int Str Int))), vs = [v0] ∧ Zs amb H Ho ∧ LV K amb Ho v0 x0 ∧ (m_places_of x0).run fun r => ∀ v g H' Ho', Same Ho Ho' → Zs (g ++ amb) H' Ho' → OD K Ho' v r g → Q v H'
abbrev s_places_of : Stmt := topS 6
theorem sc_places_of : FnScope ["web", "called", "found", "place"] ["web"] (defScope s_places_of) := ⟨rfl, rfl, rfl, by decide +kernel, rfl, by decide +kernel, by decide +kernel⟩
theorem ok_places_of {f : Addr} {fd : FuncData} (F : Fun K "places_of" "places_of" s_places_of f fd) {f_names : Addr} {fd_names : FuncData} (c_names : Cal P w K mg base CX0 "names" ["web"] 1 (sp_names K cl) f_names fd_names) (m_len : mg "len" = none) (m_range : mg "range" = none) :
    FnOk P w K mg base CX0 2 f fd ["web"] (sp_places_of K cl) := by
  refine F.ok sc_places_of (fun vs H Q E h => ?_) (fun cdv A outer s H vs Q E hr h => ?_)
  · obtain ⟨amb, Ho, v_web_, web_, rfl, _⟩ := h
    rfl
  · obtain ⟨amb, Ho, v_web_, web_, rfl, z, d_web_, hw⟩ := h
    refine ⟨_, pss_cons (ps_set (i := 1) sc_places_of.nd rfl (Or.inl rfl) (pe_call c_names.ok (hr.mono (by decide)) (by rfl) c_names.g c_names.kp c_names.b .nil pass0 (pa_cons (pv 0) (pa_nil)))) (pss_cons (ps_set (i := 2) sc_places_of.nd rfl (Or.inl rfl) (pe_dnewT)) (pss_cons (ps_for PassesOwn.never rfl (pi_range1 (by rfl) m_range (pa_cons (pe_callB (zlen (K := K) rfl) (by rfl) m_len (by decide +kernel) (pa_cons (pv 0) (pa_nil))) (pa_nil))) (pg_name (i := 3) sc_places_of.nd rfl (Or.inl rfl)) (pss_cons (ps_dput (room1 hr) (pv 2) (pe_ix (zix_list (K := K) rfl) (pv 1) (pv 3) (fun _ _ => rfl)) (pv 3) (by rfl)) (pss_nil))) (pss_cons (ps_ret (pv 2)) (pss_nil)))), ?_⟩
    refine l_asg (fun v => [_, some v, _, _]) (fun _ => rfl) ?_
    refine y_call ?_
    refine y_cons ?_
    refine y_var rfl ?_
    refine y_nil ?_
    refine ⟨amb, _, _, _, rfl, z, (LV.sub d_web_ mgE), ?_⟩
    refine run_mono3 hw (fun t1 hw v H Ho e z d2 => ?_)
    replace d_web_ := LV.mo d_web_ e
    have es4 := (Same.refl _).trans e
    refine l_d (K := K) (Ho := Ho) hw d2 (fun called_ v_called_ d_called_ hw => ?_)
    refine l_asg (fun v => [_, _, some v, _]) (fun _ => rfl) ?_
    refine g_dnewT (K := K) (α := Int) z (fun H v5 g6 z o7 => ?_)
    refine d_o hw z o7 (fun found_ v_found_ g_found_ z d_found_ hw => ?_)
    refine y_for ?_
    refine k_iR1 ?_
    refine y_cons ?_
    refine y_cb ?_
    refine y_cons ?_
    refine y_var rfl ?_
    refine y_nil ?_
    refine y_len (LV.sub d_web_ (mgS mgE)) z ?_
    refine y_nil ?_
    refine k_srcR1 (K := K) (Ho := Ho) hw.1 (fun J T => ?_)
    replace hw := (run_gd hw).2
    refine y_forL T hw (fun (s : (Dc (Int × Int) Int)) (σ : L2.St) (H Ho : Hp) => ∃ (g_found_ : Grp) (y_place_ : Option V), σ = [some v_web_, some v_called_, some v_found_, y_place_] ∧ Zs (g_found_ ++ amb) H Ho ∧ OD K Ho v_found_ s g_found_) ⟨_, _, rfl, z, d_found_⟩ ?_ ?_ ?_ ?_
    · intro s σ H Ho hI
      obtain ⟨g_found_, y_place_, rfl, z, d_found_⟩ := hI
      exact ⟨_, z, mgN⟩
    · intro s σ H Ho H2 Ho2 hI e t
      obtain ⟨g_found_, y_place_, rfl, z, d_found_⟩ := hI
      exact ⟨_, _, rfl, t _ z, OD.mo d_found_ e⟩
    · intro place_ v_place_ s σ H Ho N e hI d_place_ hw
      obtain ⟨found_, rfl⟩ : ∃ q, q = s := ⟨_, rfl⟩
      obtain ⟨g_found_, y_place_, rfl, z, d_found_⟩ := hI
      replace d_called_ := D.mo d_called_ e
      have es8 := es4.trans e
      obtain rfl := d_int d_place_
      refine y_gname (σ' := [some v_web_, some v_called_, some v_found_, some (V.int place_)]) rfl ?_
      refine y_dput ?_
      refine y_var rfl ?_
      refine y_var rfl ?_
      refine y_op ?_
      refine y_var rfl ?_
      refine y_var rfl ?_
      refine y_ixL (LV.of d_called_) z hw (fun t9 w d10 hw => ?_)
      refine g_dput z d_found_ d10 (Dq.int _) hw (fun found_ g_found_ H z d_found_ hw => ?_)
      exact (run_ret hw) _ _ _ (Same.refl _) ⟨_, _, rfl, z, d_found_⟩
    intro s σ H Ho e hI hw
    obtain ⟨found_, rfl⟩ : ∃ q, q = s := ⟨_, rfl⟩
    obtain ⟨g_found_, y_place_, rfl, z, d_found_⟩ := hI
    have es11 := es4.trans e
    refine y_ret ?_
    refine y_var rfl ?_
    exact (run_ret hw) _ _ _ _ es11 z d_found_
def sp_touches_meet (K : PySem.W.Frag) (cl : Nat → Addr) : Sp := fun vs H Q E => ∃ (amb : Grp) (Ho : Hp) (v0 : V) (x0 : (P3 Int Str Int)) (v1 : V) (x1 : (P3 Int Str Int)), vs = [v0, v1] ∧ Zs amb H Ho ∧ Z.D K Ho v0 x0 ∧ Z.D K Ho v1 x1 ∧ (m_touches_meet x0 x1).run fun r => ∀ v H' Ho', Same Ho Ho' → Zs amb H' Ho' → Z.D K Ho' v r → Q v H'
abbrev s_touches_meet : Stmt := topS 7
theorem sc_touches_meet : FnScope ["one", "other"] ["one", "other"] (defScope s_touches_meet) := ⟨rfl, rfl, rfl, by decide +kernel, rfl, by decide +kernel, by decide +kernel⟩
theorem ok_touches_meet {f : Addr} {fd : FuncData} (F : Fun K "touches_meet" "touches_meet" s_touches_meet f fd) :
    FnOk P w K mg base CX0 1 f fd ["one", "other"] (sp_touches_meet K cl) := by
  refine F.ok sc_touches_meet (fun vs H Q E h => ?_) (fun cdv A outer s H vs Q E hr h => ?_)
  · obtain ⟨amb, Ho, v_one_, one_, v_other_, other_, rfl, _⟩ := h
    rfl
  · obtain ⟨amb, Ho, v_one_, one_, v_other_, other_, rfl, z, d_one_, d_other_, hw⟩ := h
    refine ⟨_, pss_cons (ps_if (PW.pt (pw_or (pt_cmpR (op_eq) (pe_ix (zix_tup (K := K) rfl) (pv 0) (pe_int) (fun _ _ => rfl)) (pe_ix (zix_tup (K := K) rfl) (pv 1) (pe_int) (fun _ _ => rfl)) (nomark _)) (pw_or1 (pt_cmpR (op_ne) (pe_ix (zix_tup (K := K) rfl) (pv 0) (pe_int) (fun _ _ => rfl)) (pe_ix (zix_tup (K := K) rfl) (pv 1) (pe_int) (fun _ _ => rfl)) (nomark _))))) (pss_cons (ps_ret (pe_bl)) (pss_nil)) (pss_nil)) (pss_cons (ps_ret (pe_or (pe_cmpR (op_ne) (pe_ix (zix_tup (K := K) rfl) (pv 0) (pe_int) (fun _ _ => rfl)) (pe_str) (nomark _)) (pe_one (pe_cmpR (op_ne) (pe_ix (zix_tup (K := K) rfl) (pv 1) (pe_int) (fun _ _ => rfl)) (pe_str) (nomark _))))) (pss_nil)), ?_⟩
    refine y_ifS ?_
    refine y_or ?_
    refine y_test ?_
    refine y_op ?_
    refine y_op ?_
    refine y_var rfl ?_
    refine y_c ?_
    refine y_ixT (y := one_.a) d_one_ z ⟨_, rfl, rfl⟩ (fun w d1 => ?_)
    first | obtain rfl := d_int d1 | cases d_int d1
    refine y_op ?_
    refine y_var rfl ?_
    refine y_c ?_
    refine y_ixT (y := other_.a) d_other_ z ⟨_, rfl, rfl⟩ (fun w d2 => ?_)
    first | obtain rfl := d_int d2 | cases d_int d2
    refine y_eqi ?_
    refine ⟨_, rfl, ?_⟩
    refine w_orP (a := (decide (one_.a = other_.a))) (!decide (one_.c = other_.c)) (fun hb hq => ?_) ?_
    · refine y_test ?_
      refine y_op ?_
      refine y_op ?_
      refine y_var rfl ?_
      refine y_c ?_
      refine y_ixT (y := one_.c) d_one_ z ⟨_, rfl, rfl⟩ (fun w d3 => ?_)
      first | obtain rfl := d_int d3 | cases d_int d3
      refine y_op ?_
      refine y_var rfl ?_
      refine y_c ?_
      refine y_ixT (y := other_.c) d_other_ z ⟨_, rfl, rfl⟩ (fun w d4 => ?_)
      first | obtain rfl := d_int d4 | cases d_int d4
      refine y_nei ?_
      refine ⟨_, rfl, ?_⟩
      exact hq
    refine y_cases hw (fun hb hw => ?_) (fun hb hw => ?_)
    · refine y_ret ?_
      refine y_c ?_
      exact (run_ret hw) _ _ _ (Same.refl _) z (Dq.bl _)
    · refine y_nxS ?_
      refine y_ret ?_
      refine y_orV ?_
      refine y_op ?_
      refine y_op ?_
      refine y_var rfl ?_
      refine y_c ?_
      refine y_ixT (y := one_.b) d_one_ z ⟨_, rfl, rfl⟩ (fun w d5 => ?_)
      first | obtain rfl := d_str d5 | cases d_str d5
      refine y_c ?_
      refine y_nes ?_
      refine ⟨_, rfl, ?_⟩
      refine w_orPV (a := (!decide (one_.b = ("load" : Str)))) (!decide (other_.b = ("load" : Str))) (fun hb hq => ?_) ?_
      · refine y_op ?_
        refine y_op ?_
        refine y_var rfl ?_
        refine y_c ?_
        refine y_ixT (y := other_.b) d_other_ z ⟨_, rfl, rfl⟩ (fun w d6 => ?_)
        first | obtain rfl := d_str d6 | cases d_str d6
        refine y_c ?_
        refine y_nes ?_
        exact hq
      exact (run_ret hw) _ _ _ (Same.refl _) z (Dq.bl _)
def sp_is_step (K : PySem.W.Frag) (cl : Nat → Addr) : Sp := fun vs H Q E => ∃ (amb : Grp) (Ho : Hp) (v0 : V) (x0 : (List (P3 Int Str Int))) (v1 : V) (x1 : Int) (v2 : V) (x2 : Int), vs = [v0, v1, v2] ∧ Zs amb H Ho ∧ LV K amb Ho v0 x0 ∧ Z.D K Ho v1 x1 ∧ Z.D K Ho v2 x2 ∧ (m_is_step x0 x1 x2).run fun r => ∀ v H' Ho', Same Ho Ho' → Zs amb H' Ho' → Z.D K Ho' v r → Q v H'
abbrev s_is_step : Stmt := topS 8
theorem sc_is_step : FnScope ["web", "i", "j"] ["web", "i", "j"] (defScope s_is_step) := ⟨rfl, rfl, rfl, by decide +kernel, rfl, by decide +kernel, by decide +kernel⟩
theorem ok_is_step {f : Addr} {fd : FuncData} (F : Fun K "is_step" "is_step" s_is_step f fd) {f_touches_meet : Addr} {fd_touches_meet : FuncData} (c_touches_meet : Cal P w K mg base CX0 "touches_meet" ["one", "other"] 1 (sp_touches_meet K cl) f_touches_meet fd_touches_meet) :
    FnOk P w K mg base CX0 2 f fd ["web", "i", "j"] (sp_is_step K cl) := by
  refine F.ok sc_is_step (fun vs H Q E h => ?_) (fun cdv A outer s H vs Q E hr h => ?_)
  · obtain ⟨amb, Ho, v_web_, web_, v_i_, i_, v_j_, j_, rfl, _⟩ := h
    rfl
  · obtain ⟨amb, Ho, v_web_, web_, v_i_, i_, v_j_, j_, rfl, z, d_web_, d_i_, d_j_, hw⟩ := h
    refine ⟨_, pss_cons (ps_ret (pe_or (pe_cmpR (op_eq) (pe_ix (zix_tup (K := K) rfl) (pe_ix (zix_list (K := K) rfl) (pv 0) (pv 1) (fun _ _ => rfl)) (pe_int) (fun _ _ => rfl)) (pe_ix (zix_tup (K := K) rfl) (pe_ix (zix_list (K := K) rfl) (pv 0) (pv 2) (fun _ _ => rfl)) (pe_int) (fun _ _ => rfl)) (nomark _)) (pe_one (pe_call c_touches_meet.ok (hr.mono (by decide)) (by rfl) c_touches_meet.g c_touches_meet.kp c_touches_meet.b .nil pass0 (pa_cons (pe_ix (zix_list (K := K) rfl) (pv 0) (pv 1) (fun _ _ => rfl)) (pa_cons (pe_ix (zix_list (K := K) rfl) (pv 0) (pv 2) (fun _ _ => rfl)) (pa_nil))))))) (pss_nil), ?_⟩
    obtain rfl := d_int d_i_
    obtain rfl := d_int d_j_
    refine y_ret ?_
    refine y_orV ?_
    refine y_op ?_
    refine y_op ?_
    refine y_op ?_
    refine y_var rfl ?_
    refine y_var rfl ?_
    refine y_ixL (LV.sub d_web_ mgE) z hw (fun t1 w d2 hw => ?_)
    refine y_c ?_
    refine y_ixT (y := t1.a) d2 z ⟨_, rfl, rfl⟩ (fun w d3 => ?_)
    first | obtain rfl := d_int d3 | cases d_int d3
    refine y_op ?_
    refine y_op ?_
    refine y_var rfl ?_
    refine y_var rfl ?_
    refine y_ixL (LV.sub d_web_ mgE) z hw (fun t4 w d5 hw => ?_)
    refine y_c ?_
    refine y_ixT (y := t4.a) d5 z ⟨_, rfl, rfl⟩ (fun w d6 => ?_)
    first | obtain rfl := d_int d6 | cases d_int d6
    refine y_eqi ?_
    refine ⟨_, rfl, ?_⟩
    refine w_orVJ hw (fun (s : Bool) (v : V) (H2 : Hp) => ∃ (Ho2 : Hp), Same Ho Ho2 ∧ Zs amb H2 Ho2 ∧ v = V.bl s) (fun hb hw => ?_) (fun hb hw => ?_) ?_
    · exact (run_ret hw) _ _ ⟨_, (Same.refl _), z, rfl⟩
    · refine y_call ?_
      refine y_cons ?_
      refine y_op ?_
      refine y_var rfl ?_
      refine y_var rfl ?_
      refine y_ixL (LV.sub d_web_ mgE) z hw (fun t7 w d8 hw => ?_)
      refine y_cons ?_
      refine y_op ?_
      refine y_var rfl ?_
      refine y_var rfl ?_
      refine y_ixL (LV.sub d_web_ mgE) z hw (fun t9 w d10 hw => ?_)
      refine y_nil ?_
      refine ⟨amb, _, _, _, _, _, rfl, z, d8, d10, ?_⟩
      refine run_mono3 hw (fun t11 hw v H Ho e z d12 => ?_)
      replace d_web_ := LV.mo d_web_ e
      have es14 := (Same.refl _).trans e
      first | obtain rfl := d_bool d12 | cases d_bool d12
      exact (run_ret hw) _ _ ⟨_, es14, z, rfl⟩
    rintro t15 v H ⟨Ho, e, z, rfl⟩ hw
    replace d_web_ := LV.mo d_web_ e
    have es18 := (Same.refl _).trans e
    exact (run_ret hw) _ _ _ es18 z (Dq.bl _)
def sp_looked_back (K : PySem.W.Frag) (cl : Nat → Addr) : Sp := fun vs H Q E => ∃ (amb : Grp) (Ho : Hp) (v0 : V) (x0 : (List (P3 Int Str Int))) (v1 : V) (x1 : (List (Int × Int))) (v2 : V) (x2 : (List (List Int))) (v3 : V) (x3 : Int), vs = [v0, v1, v2, v3] ∧ Zs amb H Ho ∧ LV K amb Ho v0 x0 ∧ LV K amb Ho v1 x1 ∧ LV K amb Ho v2 x2 ∧ Z.D K Ho v3 x3 ∧ (m_looked_back x0 x1 x2 x3).run fun r => ∀ v H' Ho', Same Ho Ho' → Zs amb H' Ho' → Z.D K Ho' v r → Q v H'
abbrev s_looked_back : Stmt := topS 9
theorem sc_looked_back : FnScope ["web", "called", "table", "j", "known", "firsts", "i", "hand", "k", "a", "b"] ["web", "called", "table", "j"] (defScope s_looked_back) := ⟨rfl, rfl, rfl, by decide +kernel, rfl, by decide +kernel, by decide +kernel⟩
theorem ok_looked_back {f : Addr} {fd : FuncData} (F : Fun K "looked_back" "looked_back" s_looked_back f fd) {f_is_step : Addr} {fd_is_step : FuncData} (c_is_step : Cal P w K mg base CX0 "is_step" ["web", "i", "j"] 2 (sp_is_step K cl) f_is_step fd_is_step) (m_range : mg "range" = none) (m_zip : mg "zip" = none) (m_max : mg "max" = none) {tk_HANDS : Tok} (g_HANDS : mg "HANDS" = some (.int 8 tk_HANDS)) :
    FnOk P w K mg base CX0 3 f fd ["web", "called", "table", "j"] (sp_looked_back K cl) := by
  refine F.ok sc_looked_back (fun vs H Q E h => ?_) (fun cdv A outer s H vs Q E hr h => ?_)
  · obtain ⟨amb, Ho, v_web_, web_, v_called_, called_, v_table_, table_, v_j_, j_, rfl, _⟩ := h
    rfl
  · obtain ⟨amb, Ho, v_web_, web_, v_called_, called_, v_table_, table_, v_j_, j_, rfl, z, d_web_, d_called_, d_table_, d_j_, hw⟩ := h
    refine ⟨_, pss_cons (ps_set (i := 4) sc_looked_back.nd rfl (Or.inl rfl) (pe_op op_rep (pe_lst (pa_cons (pe_int) (pa_nil))) (pe_glob (v := .int 8) rfl g_HANDS ⟨_, rfl⟩))) (pss_cons (ps_set (i := 5) sc_looked_back.nd rfl (Or.inl rfl) (pe_lst (pa_nil))) (pss_cons (ps_for PassesOwn.never rfl (pi_range3 (by rfl) m_range (pa_cons (pe_op op_sub (pv 3) (pe_int)) (pa_cons (pe_un un_neg (pe_int)) (pa_cons (pe_un un_neg (pe_int)) (pa_nil))))) (pg_name (i := 6) sc_looked_back.nd rfl (Or.inl rfl)) (pss_cons (ps_asg (pe_ix (zix_list (K := K) rfl) (pv 1) (pv 6) (fun _ _ => rfl)) (zpg_tup (K := K) (n := 2) rfl rfl (pgs_cons (pg_name (i := 7) sc_looked_back.nd rfl (Or.inl rfl)) (pgs_cons (pg_name (i := 8) sc_looked_back.nd rfl (Or.inl rfl)) (pgs_nil))))) (pss_cons (ps_if (PW.pt (pw_and (pt_cmpR (op_ge) (pv 8) (pe_ix (zix_list (K := K) rfl) (pv 4) (pv 7) (fun _ _ => rfl)) (nomark _)) (pw_and1 (pt_val (pe_call c_is_step.ok (hr.mono (by decide)) (by rfl) c_is_step.g c_is_step.kp c_is_step.b .nil pass0 (pa_cons (pv 0) (pa_cons (pv 6) (pa_cons (pv 3) (pa_nil))))))))) (pss_cons (ps_setLc (i := 4) (own := [("a", 9), ("b", 10)]) rfl sc_looked_back.nd rfl rfl (sw_true rfl rfl rfl (by decide +kernel)) (zpi_zip (K := K) rfl (by rfl) m_zip (pa_cons (pv 4) (pa_cons (pe_ix (zix_list (K := K) rfl) (pv 2) (pv 6) (fun _ _ => rfl)) (pa_nil)))) (blkOk_by (N := ["web", "called", "table", "j", "known", "firsts", "i", "hand", "k", "a", "b"]) (sc := defScope s_looked_back) (by decide +kernel)) (fun _ _ _ _ _ => zpg_tup (K := K) (n := 2) rfl rfl (pgs_cons (pg_name (i := 9) sc_looked_back.nd rfl (Or.inl rfl)) (pgs_cons (pg_name (i := 10) sc_looked_back.nd rfl (Or.inl rfl)) (pgs_nil)))) (fun _ _ _ _ _ => pts_nil) (fun _ _ _ _ _ => pe_callB (call_max2 rfl) (by rfl) m_max (by decide +kernel) (pa_cons (pv 9) (pa_cons (pv 10) (pa_nil))))) (pss_cons (ps_if (pt_cmpR (op_ne) (pv 7) (pe_ix (zix_tup (K := K) rfl) (pe_ix (zix_list (K := K) rfl) (pv 1) (pv 3) (fun _ _ => rfl)) (pe_int) (fun _ _ => rfl)) (nomark _)) (pss_cons (ps_expr (pe_bm PySem.F.plainAttrs_list PySem.F.slot_list_append PySem.F.type_list_append mt_append (pv 5) (pa_cons (pv 6) (pa_nil)))) (pss_nil)) (pss_nil)) (pss_nil))) (pss_nil)) (pss_nil)))) (pss_cons (ps_asg (pe_op op_add (pe_ix (zix_tup (K := K) rfl) (pe_ix (zix_list (K := K) rfl) (pv 1) (pv 3) (fun _ _ => rfl)) (pe_int) (fun _ _ => rfl)) (pe_int)) (pg_sub (pv 4) (pe_ix (zix_tup (K := K) rfl) (pe_ix (zix_list (K := K) rfl) (pv 1) (pv 3) (fun _ _ => rfl)) (pe_int) (fun _ _ => rfl)) set_list)) (pss_cons (ps_ret (pe_tup (pa_cons (pv 4) (pa_cons (pv 5) (pa_nil))))) (pss_nil))))), ?_⟩
    obtain rfl := d_int d_j_
    refine l_asg (fun v => [_, _, _, _, some v, _, _, _, _, _, _]) (fun _ => rfl) ?_
    refine y_op ?_
    refine k_lst ?_
    refine y_cons ?_
    refine y_c ?_
    refine y_nil ?_
    refine k_lstk (K := K) (xs := ([(0 : Int)] : (List Int))) z (DqAll.cons (Dq.int _) DqAll.nil) (by show 1 ≤ sizeLine; decide) (fun H p1 ws2 z d3 => ?_)
    replace z : Zs ([(p1, HO.lst ws2)] ++ amb) H Ho := z
    have o4 := OL.mk (p := p1) d3
    refine y_c ?_
    refine y_rep z d3 hw.1 (fun H p5 ws6 z d7 => ?_)
    replace hw := (run_gd hw).2
    replace z : Zs ([(p5, HO.lst ws6)] ++ amb) H Ho := z
    have o8 := OL.mk (p := p5) d7
    refine l_o hw z o8 (fun known_ v_known_ g_known_ z d_known_ hw => ?_)
    refine l_asg (fun v => [_, _, _, _, _, some v, _, _, _, _, _]) (fun _ => rfl) ?_
    refine k_lst ?_
    refine y_nil ?_
    refine k_lstk (K := K) (xs := ([] : (List Int))) z DqAll.nil (by show 0 ≤ sizeLine; decide) (fun H p9 ws10 z d11 => ?_)
    replace z : Zs ([(p9, HO.lst ws10)] ++ (g_known_ ++ amb)) H Ho := z
    have o12 := OL.mk (p := p9) d11
    refine l_o hw z o12 (fun firsts_ v_firsts_ g_firsts_ z d_firsts_ hw => ?_)
    refine y_for ?_
    refine k_iR3 ?_
    refine y_cons ?_
    refine y_op ?_
    refine y_var rfl ?_
    refine y_c ?_
    refine y_i0 ?_
    refine y_cons ?_
    refine y_un ?_
    refine y_c ?_
    refine y_neg ?_
    refine y_cons ?_
    refine y_un ?_
    refine y_c ?_
    refine y_neg ?_
    refine y_nil ?_
    refine k_srcR3 (K := K) (Ho := Ho) (a := (j_ - (1 : Int))) (b := (-(1 : Int))) hw.1 (fun J T => ?_)
    replace hw := (run_gd hw).2
    refine y_forL T hw (fun (s : (List Int) × (List Int)) (σ : L2.St) (H Ho : Hp) => ∃ (v_known_ : V) (g_known_ : Grp) (g_firsts_ : Grp) (y_i_ : Option V) (y_hand_ : Option V) (y_k_ : Option V), σ = [some v_web_, some v_called_, some v_table_, some (V.int j_), some v_known_, some v_firsts_, y_i_, y_hand_, y_k_, none, none] ∧ Zs (g_firsts_ ++ (g_known_ ++ amb)) H Ho ∧ OL K Ho v_known_ s.1 g_known_ ∧ OL K Ho v_firsts_ s.2 g_firsts_) ⟨_, _, _, _, _, _, rfl, z, d_known_, d_firsts_⟩ ?_ ?_ ?_ ?_
    · intro s σ H Ho hI
      obtain ⟨known_, firsts_⟩ := s
      obtain ⟨v_known_, g_known_, g_firsts_, y_i_, y_hand_, y_k_, rfl, z, d_known_, d_firsts_⟩ := hI
      exact ⟨_, z, mgN⟩
    · intro s σ H Ho H2 Ho2 hI e t
      obtain ⟨known_, firsts_⟩ := s
      obtain ⟨v_known_, g_known_, g_firsts_, y_i_, y_hand_, y_k_, rfl, z, d_known_, d_firsts_⟩ := hI
      exact ⟨_, _, _, _, _, _, rfl, t _ z, OL.mo d_known_ e, OL.mo d_firsts_ e⟩
    · intro i_ v_i_ s σ H Ho N e hI d_i_ hw
      obtain ⟨known_, firsts_⟩ := s
      obtain ⟨v_known_, g_known_, g_firsts_, y_i_, y_hand_, y_k_, rfl, z, d_known_, d_firsts_⟩ := hI
      replace d_called_ := LV.mo d_called_ e
      replace d_table_ := LV.mo d_table_ e
      replace d_web_ := LV.mo d_web_ e
      have es13 := (Same.refl _).trans e
      obtain rfl := d_int d_i_
      refine y_gname (σ' := [some v_web_, some v_called_, some v_table_, some (V.int j_), some v_known_, some v_firsts_, some (V.int i_), y_hand_, y_k_, none, none]) rfl ?_
      refine y_asgG ?_
      refine y_op ?_
      refine y_var rfl ?_
      refine y_var rfl ?_
      refine y_ixL (LV.sub d_called_ (mgS (mgS mgE))) z hw (fun t14 w d15 hw => ?_)
      refine l_u2 hw d15 (fun u16 d17 hw => ?_)
      obtain ⟨hand_, k_⟩ := u16
      refine c_gt2 (fun v_hand_ v_k_ => [_, _, _, _, _, _, _, some v_hand_, some v_k_, _, _]) (fun _ _ => rfl) d17 z (fun v_hand_ v_k_ d_hand_ d_k_ => ?_)
      obtain rfl := d_int d_hand_
      obtain rfl := d_int d_k_
      refine y_ifS ?_
      refine y_and ?_
      refine y_test ?_
      refine y_op ?_
      refine y_var rfl ?_
      refine y_op ?_
      refine y_var rfl ?_
      refine y_var rfl ?_
      refine y_ixL (OL.lv d_known_ (mgS mg0)) z hw (fun t18 w d19 hw => ?_)
      first | obtain rfl := d_int d19 | cases d_int d19
      refine y_i0 ?_
      refine ⟨_, rfl, ?_⟩
      refine w_andJ hw (fun (s : Bool) (v : Bool) (H2 : Hp) => ∃ (Ho2 : Hp), Same Ho Ho2 ∧ Zs (g_firsts_ ++ (g_known_ ++ amb)) H2 Ho2 ∧ v = s) (fun hb hw => ?_) (fun hb hw => ?_) ?_
      · refine y_tB ?_
        refine y_call ?_
        refine y_cons ?_
        refine y_var rfl ?_
        refine y_cons ?_
        refine y_var rfl ?_
        refine y_cons ?_
        refine y_var rfl ?_
        refine y_nil ?_
        refine ⟨(g_firsts_ ++ (g_known_ ++ amb)), _, _, _, _, _, _, _, rfl, z, (LV.sub d_web_ (mgS (mgS mgE))), (Dq.int _), (Dq.int _), ?_⟩
        refine run_mono3 hw (fun t20 hw v H Ho e z d21 => ?_)
        replace d_called_ := LV.mo d_called_ e
        replace d_firsts_ := OL.mo d_firsts_ e
        replace d_known_ := OL.mo d_known_ e
        replace d_table_ := LV.mo d_table_ e
        replace d_web_ := LV.mo d_web_ e
        have es23 := (Same.refl _).trans e
        first | obtain rfl := d_bool d21 | cases d_bool d21
        refine ⟨_, rfl, ?_⟩
        exact (run_ret hw) _ _ ⟨_, es23, z, rfl⟩
      · exact (run_ret hw) _ _ ⟨_, (Same.refl _), z, rfl⟩
      rintro t24 v H ⟨Ho, e, z, rfl⟩ hw
      replace d_called_ := LV.mo d_called_ e
      replace d_firsts_ := OL.mo d_firsts_ e
      replace d_known_ := OL.mo d_known_ e
      replace d_table_ := LV.mo d_table_ e
      replace d_web_ := LV.mo d_web_ e
      have es27 := (Same.refl _).trans e
      refine w_ifJ hw (fun (s : (List Int) × (List Int)) (σ : L2.St) (H : Hp) => ∃ Ho2, Same Ho Ho2 ∧ (fun (s : (List Int) × (List Int)) (σ : L2.St) (H Ho : Hp) => ∃ (v_known_ : V) (g_known_ : Grp) (g_firsts_ : Grp), σ = [some v_web_, some v_called_, some v_table_, some (V.int j_), some v_known_, some v_firsts_, some (V.int i_), some (V.int hand_), some (V.int k_), none, none] ∧ Zs (g_firsts_ ++ (g_known_ ++ amb)) H Ho ∧ OL K Ho v_known_ s.1 g_known_ ∧ OL K Ho v_firsts_ s.2 g_firsts_) s σ H Ho2) (fun hb hw => ?_) (fun hb hw => ?_) ?_
      · refine l_asg (fun v => [_, _, _, _, some v, _, _, _, _, _, _]) (fun _ => rfl) ?_
        refine y_lc ?_
        refine k_iZip ?_
        refine y_cons ?_
        refine y_var rfl ?_
        refine y_cons ?_
        refine y_op ?_
        refine y_var rfl ?_
        refine y_var rfl ?_
        refine y_ixL (LV.sub d_table_ (mgS (mgS mgE))) z hw (fun t28 w d29 hw => ?_)
        refine y_nil ?_
        refine k_srcZ (r0 := g_known_) (OL.lv d_known_ mgE) (LV.of d29) (mgS mg0) z (fun J T => ?_)
        refine y_lcG z (mgS mg0) T hw (fun r30 a x H Ho N N' e z dx hw => ?_) (fun t35 H Ho e hw p32 ws33 z d34 => ?_)
        · replace z : Zs ([r30] ++ (g_firsts_ ++ (g_known_ ++ amb))) H Ho := z
          replace d_called_ := LV.mo d_called_ e
          replace d_firsts_ := OL.mo d_firsts_ e
          replace d_known_ := OL.mo d_known_ e
          replace d_table_ := LV.mo d_table_ e
          replace d_web_ := LV.mo d_web_ e
          have es31 := (Same.refl _).trans e
          obtain ⟨a_, b_⟩ := a
          refine c_gt2 (fun v_a_ v_b_ => [some v_web_, some v_called_, some v_table_, some (V.int j_), some v_known_, some v_firsts_, some (V.int i_), some (V.int hand_), some (V.int k_), some v_a_, some v_b_]) (fun _ _ => rfl) dx z (fun v_a_ v_b_ d_a_ d_b_ => ?_)
          obtain rfl := d_int d_a_
          obtain rfl := d_int d_b_
          refine ⟨rfl, ?_⟩
          refine y_yes (w_t ?_)
          replace hw := run_itT (run_bret hw) rfl
          refine y_cb ?_
          refine y_cons ?_
          refine y_var rfl ?_
          refine y_cons ?_
          refine y_var rfl ?_
          refine y_nil ?_
          refine ⟨_, _, rfl, ?_⟩
          exact (run_ret hw) _ _ _ (Same.refl _) z (Dq.int _)
        replace d_called_ := LV.mo d_called_ e
        replace d_firsts_ := OL.mo d_firsts_ e
        replace d_known_ := OL.mo d_known_ e
        replace d_table_ := LV.mo d_table_ e
        replace d_web_ := LV.mo d_web_ e
        have es36 := (Same.refl _).trans e
        replace z : Zs ([(p32, HO.lst ws33)] ++ (g_firsts_ ++ (g_known_ ++ amb))) H Ho := z
        have o37 := OL.mk (p := p32) d34
        replace z : Zs ([(p32, HO.lst ws33)] ++ (g_firsts_ ++ amb)) _ _ := z.go [[(p32, HO.lst ws33)], g_firsts_, g_known_] amb [0, 1]
        refine l_o hw z o37 (fun known_ v_known_ g_known_ z d_known_ hw => ?_)
        refine y_ifS ?_
        refine y_test ?_
        refine y_op ?_
        refine y_var rfl ?_
        refine y_op ?_
        refine y_op ?_
        refine y_var rfl ?_
        refine y_var rfl ?_
        refine y_ixL (LV.sub d_called_ (mgS (mgS mgE))) z hw (fun t38 w d39 hw => ?_)
        refine y_c ?_
        refine y_ixT (y := t38.1) d39 z ⟨_, rfl, rfl⟩ (fun w d40 => ?_)
        first | obtain rfl := d_int d40 | cases d_int d40
        refine y_nei ?_
        refine ⟨_, rfl, ?_⟩
        refine w_ifJ hw (fun (s : (List Int)) (σ : L2.St) (H : Hp) => ∃ Ho2, Same Ho Ho2 ∧ (fun (s : (List Int)) (σ : L2.St) (H Ho : Hp) => ∃ (g_firsts_ : Grp), σ = [some v_web_, some v_called_, some v_table_, some (V.int j_), some v_known_, some v_firsts_, some (V.int i_), some (V.int hand_), some (V.int k_), none, none] ∧ Zs (g_known_ ++ (g_firsts_ ++ amb)) H Ho ∧ OL K Ho v_firsts_ s g_firsts_) s σ H Ho2) (fun hb hw => ?_) (fun hb hw => ?_) ?_
        · refine y_drop ?_
          refine y_bm ?_
          refine y_var rfl ?_
          refine g_tyL (OL.lv d_firsts_ (mgS mg0)) z ?_
          refine y_cons ?_
          refine y_var rfl ?_
          refine y_nil ?_
          replace z : Zs (g_firsts_ ++ (g_known_ ++ amb)) _ _ := z.go [g_known_, g_firsts_] amb [1, 0]
          refine g_app z d_firsts_ (Dq.int _) hw (fun firsts_ g_firsts_ H z d_firsts_ hw => ?_)
          replace z : Zs (g_known_ ++ (g_firsts_ ++ amb)) _ _ := z.go [g_firsts_, g_known_] amb [1, 0]
          exact (run_ret hw) _ _ ⟨_, (Same.refl _), ⟨_, rfl, z, d_firsts_⟩⟩
        · refine y_nxS ?_
          exact (run_ret hw) _ _ ⟨_, (Same.refl _), ⟨_, rfl, z, d_firsts_⟩⟩
        rintro firsts_ σ H ⟨Ho, e, g_firsts_, rfl, z, d_firsts_⟩ hw
        replace d_called_ := LV.mo d_called_ e
        replace d_known_ := OL.mo d_known_ e
        replace d_table_ := LV.mo d_table_ e
        replace d_web_ := LV.mo d_web_ e
        have es41 := es36.trans e
        replace z : Zs (g_firsts_ ++ (g_known_ ++ amb)) _ _ := z.go [g_known_, g_firsts_] amb [1, 0]
        exact (run_ret hw) _ _ ⟨_, es41, ⟨_, _, _, rfl, z, d_known_, d_firsts_⟩⟩
      · refine y_nxS ?_
        exact (run_ret hw) _ _ ⟨_, (Same.refl _), ⟨_, _, _, rfl, z, d_known_, d_firsts_⟩⟩
      rintro ⟨known_, firsts_⟩ σ H ⟨Ho, e, v_known_, g_known_, g_firsts_, rfl, z, d_known_, d_firsts_⟩ hw
      replace d_called_ := LV.mo d_called_ e
      replace d_table_ := LV.mo d_table_ e
      replace d_web_ := LV.mo d_web_ e
      have es42 := es27.trans e
      exact (run_ret hw) _ _ _ es42 ⟨_, _, _, _, _, _, rfl, z, d_known_, d_firsts_⟩
    intro s σ H Ho e hI hw
    obtain ⟨known_, firsts_⟩ := s
    obtain ⟨v_known_, g_known_, g_firsts_, y_i_, y_hand_, y_k_, rfl, z, d_known_, d_firsts_⟩ := hI
    replace d_called_ := LV.mo d_called_ e
    have es43 := (Same.refl _).trans e
    refine y_asgG ?_
    refine y_op ?_
    refine y_op ?_
    refine y_op ?_
    refine y_var rfl ?_
    refine y_var rfl ?_
    refine y_ixL (LV.sub d_called_ (mgS (mgS mgE))) z hw (fun t44 w d45 hw => ?_)
    refine y_c ?_
    refine y_ixT (y := t44.2) d45 z ⟨_, rfl, rfl⟩ (fun w d46 => ?_)
    first | obtain rfl := d_int d46 | cases d_int d46
    refine y_c ?_
    refine y_i0 ?_
    refine y_gsub ?_
    refine y_var rfl ?_
    refine y_op ?_
    refine y_op ?_
    refine y_var rfl ?_
    refine y_var rfl ?_
    refine y_ixL (LV.sub d_called_ (mgS (mgS mgE))) z hw (fun t47 w d48 hw => ?_)
    refine y_c ?_
    refine y_ixT (y := t47.1) d48 z ⟨_, rfl, rfl⟩ (fun w d49 => ?_)
    first | obtain rfl := d_int d49 | cases d_int d49
    replace z : Zs (g_known_ ++ (g_firsts_ ++ amb)) _ _ := z.go [g_firsts_, g_known_] amb [1, 0]
    refine g_sti z d_known_ (Dq.int _) hw (fun known_ g_known_ H z d_known_ hw => ?_)
    refine y_ret ?_
    refine k_tup ?_
    refine y_cons ?_
    refine y_var rfl ?_
    refine y_cons ?_
    refine y_var rfl ?_
    refine y_nil ?_
    refine l_fr d_known_ z (fun Ho e z d_known_ => ?_)
    replace d_firsts_ := OL.mo d_firsts_ e
    have es50 := es43.trans e
    refine l_fr d_firsts_ z (fun Ho e z d_firsts_ => ?_)
    replace d_known_ := D.mo d_known_ e
    have es51 := es50.trans e
    refine k_tupk (K := K) (x := (known_, firsts_)) z (by show 2 ≤ sizeLine; decide) _ rfl (DqAll.cons d_known_ (DqAll.cons d_firsts_ DqAll.nil)) (fun p H Ho e z d52 => ?_)
    replace d_firsts_ := D.mo d_firsts_ e
    replace d_known_ := D.mo d_known_ e
    have es53 := es51.trans e
    exact (run_ret hw) _ _ _ es53 z d52
def sp_notes (K : PySem.W.Frag) (cl : Nat → Addr) : Sp := fun vs H Q E => ∃ (amb : Grp) (Ho : Hp) (v0 : V) (x0 : (List (P3 Int Str Int))), vs = [v0] ∧ Zs amb H Ho ∧ LV K amb Ho v0 x0 ∧ (m_notes x0).run fun r => ∀ v H' Ho', Same Ho Ho' → Zs amb H' Ho' → Z.D K Ho' v r → Q v H'
abbrev s_notes : Stmt := topS 11
theorem sc_notes : FnScope ["web", "called", "table", "found", "j", "known", "firsts", "i"] ["web"] (defScope s_notes) := ⟨rfl, rfl, rfl, by decide +kernel, rfl, by decide +kernel, by decide +kernel⟩
theorem ok_notes {f : Addr} {fd : FuncData} (F : Fun K "notes" "notes" s_notes f fd) {f_names : Addr} {fd_names : FuncData} (c_names : Cal P w K mg base CX0 "names" ["web"] 1 (sp_names K cl) f_names fd_names) {f_looked_back : Addr} {fd_looked_back : FuncData} (c_looked_back : Cal P w K mg base CX0 "looked_back" ["web", "called", "table", "j"] 3 (sp_looked_back K cl) f_looked_back fd_looked_back) (m_len : mg "len" = none) (m_range : mg "range" = none) (m_sorted : mg "sorted" = none) :
    FnOk P w K mg base CX0 4 f fd ["web"] (sp_notes K cl) := by
  refine F.ok sc_notes (fun vs H Q E h => ?_) (fun cdv A outer s H vs Q E hr h => ?_)
  · obtain ⟨amb, Ho, v_web_, web_, rfl, _⟩ := h
    rfl
  · obtain ⟨amb, Ho, v_web_, web_, rfl, z, d_web_, hw⟩ := h
    refine ⟨_, pss_cons (ps_set (i := 1) sc_notes.nd rfl (Or.inr rfl) (pe_call c_names.ok (hr.mono (by decide)) (by rfl) c_names.g c_names.kp c_names.b .nil pass0 (pa_cons (pv 0) (pa_nil)))) (pss_cons (ps_set (i := 2) sc_notes.nd rfl (Or.inl rfl) (pe_lst (pa_nil))) (pss_cons (ps_set (i := 3) sc_notes.nd rfl (Or.inl rfl) (pe_lst (pa_nil))) (pss_cons (ps_for PassesOwn.never rfl (pi_range1 (by rfl) m_range (pa_cons (pe_callB (zlen (K := K) rfl) (by rfl) m_len (by decide +kernel) (pa_cons (pv 0) (pa_nil))) (pa_nil))) (pg_name (i := 4) sc_notes.nd rfl (Or.inr rfl)) (pss_cons (ps_asg (pe_call c_looked_back.ok (hr.mono (by decide)) (by rfl) c_looked_back.g c_looked_back.kp c_looked_back.b .nil pass0 (pa_cons (pv 0) (pa_cons (pv 1) (pa_cons (pv 2) (pa_cons (pv 4) (pa_nil)))))) (zpg_tup (K := K) (n := 2) rfl rfl (pgs_cons (pg_name (i := 5) sc_notes.nd rfl (Or.inl rfl)) (pgs_cons (pg_name (i := 6) sc_notes.nd rfl (Or.inl rfl)) (pgs_nil))))) (pss_cons (ps_expr (pe_bm PySem.F.plainAttrs_list PySem.F.slot_list_append PySem.F.type_list_append mt_append (pv 2) (pa_cons (pv 5) (pa_nil)))) (pss_cons (ps_expr (pe_bm PySem.F.plainAttrs_list PySem.F.slot_list_extend PySem.F.type_list_extend mt_extend (pv 3) (pa_cons (pe_lc (own := [("i", 7)]) rfl sc_notes.nd (zpi_list (K := K) rfl (pv 6)) (blkOk_by (N := ["web", "called", "table", "found", "j", "known", "firsts", "i"]) (sc := defScope s_notes) (by decide +kernel)) (fun _ _ _ _ _ => pg_name (i := 7) sc_notes.nd rfl (Or.inl rfl)) (fun _ _ _ _ _ => pts_nil) (fun _ _ _ _ _ => pe_op (zop_catT (K := K) rfl) (pe_ix (zix_list (K := K) rfl) (pv 1) (pv 7) (fun _ _ => rfl)) (pe_ix (zix_list (K := K) rfl) (pv 1) (pv 4) (fun _ _ => rfl)))) (pa_nil)))) (pss_nil))))) (pss_cons (ps_ret (pe_callB (zsorted (K := K) (d := 4) rfl (by decide)) (by rfl) m_sorted (by decide +kernel) (pa_cons (pv 3) (pa_nil)))) (pss_nil))))), ?_⟩
    refine l_asg (fun v => [_, some v, _, _, _, _, _, _]) (fun _ => rfl) ?_
    refine y_call ?_
    refine y_cons ?_
    refine y_var rfl ?_
    refine y_nil ?_
    refine ⟨amb, _, _, _, rfl, z, (LV.sub d_web_ mgE), ?_⟩
    refine run_mono3 hw (fun t1 hw v H Ho e z d2 => ?_)
    replace d_web_ := LV.mo d_web_ e
    have es4 := (Same.refl _).trans e
    refine l_d (K := K) (Ho := Ho) hw d2 (fun called_ v_called_ d_called_ hw => ?_)
    refine l_asg (fun v => [_, _, some v, _, _, _, _, _]) (fun _ => rfl) ?_
    refine k_lst ?_
    refine y_nil ?_
    refine k_lstk (K := K) (xs := ([] : (List (List Int)))) z DqAll.nil (by show 0 ≤ sizeLine; decide) (fun H p5 ws6 z d7 => ?_)
    replace z : Zs ([(p5, HO.lst ws6)] ++ amb) H Ho := z
    have o8 := OL.mk (p := p5) d7
    refine l_o hw z o8 (fun table_ v_table_ g_table_ z d_table_ hw => ?_)
    refine l_asg (fun v => [_, _, _, some v, _, _, _, _]) (fun _ => rfl) ?_
    refine k_lst ?_
    refine y_nil ?_
    refine k_lstk (K := K) (xs := ([] : (List (P4 Int Int Int Int)))) z DqAll.nil (by show 0 ≤ sizeLine; decide) (fun H p9 ws10 z d11 => ?_)
    replace z : Zs ([(p9, HO.lst ws10)] ++ (g_table_ ++ amb)) H Ho := z
    have o12 := OL.mk (p := p9) d11
    refine l_o hw z o12 (fun found_ v_found_ g_found_ z d_found_ hw => ?_)
    refine y_for ?_
    refine k_iR1 ?_
    refine y_cons ?_
    refine y_cb ?_
    refine y_cons ?_
    refine y_var rfl ?_
    refine y_nil ?_
    refine y_len (LV.sub d_web_ (mgS (mgS mgE))) z ?_
    refine y_nil ?_
    refine k_srcR1 (K := K) (Ho := Ho) hw.1 (fun J T => ?_)
    replace hw := (run_gd hw).2
    refine y_forL T hw (fun (s : (List (List Int)) × (List (P4 Int Int Int Int))) (σ : L2.St) (H Ho : Hp) => ∃ (g_table_ : Grp) (g_found_ : Grp) (y_j_ : Option V) (y_known_ : Option V) (y_firsts_ : Option V), σ = [some v_web_, some v_called_, some v_table_, some v_found_, y_j_, y_known_, y_firsts_, none] ∧ Zs (g_found_ ++ (g_table_ ++ amb)) H Ho ∧ OL K Ho v_table_ s.1 g_table_ ∧ OL K Ho v_found_ s.2 g_found_) ⟨_, _, _, _, _, rfl, z, d_table_, d_found_⟩ ?_ ?_ ?_ ?_
    · intro s σ H Ho hI
      obtain ⟨table_, found_⟩ := s
      obtain ⟨g_table_, g_found_, y_j_, y_known_, y_firsts_, rfl, z, d_table_, d_found_⟩ := hI
      exact ⟨_, z, mgN⟩
    · intro s σ H Ho H2 Ho2 hI e t
      obtain ⟨table_, found_⟩ := s
      obtain ⟨g_table_, g_found_, y_j_, y_known_, y_firsts_, rfl, z, d_table_, d_found_⟩ := hI
      exact ⟨_, _, _, _, _, rfl, t _ z, OL.mo d_table_ e, OL.mo d_found_ e⟩
    · intro j_ v_j_ s σ H Ho N e hI d_j_ hw
      obtain ⟨table_, found_⟩ := s
      obtain ⟨g_table_, g_found_, y_j_, y_known_, y_firsts_, rfl, z, d_table_, d_found_⟩ := hI
      replace d_called_ := D.mo d_called_ e
      replace d_web_ := LV.mo d_web_ e
      have es13 := es4.trans e
      obtain rfl := d_int d_j_
      refine y_gname (σ' := [some v_web_, some v_called_, some v_table_, some v_found_, some (V.int j_), y_known_, y_firsts_, none]) rfl ?_
      refine y_asgG ?_
      refine y_call ?_
      refine y_cons ?_
      refine y_var rfl ?_
      refine y_cons ?_
      refine y_var rfl ?_
      refine y_cons ?_
      refine y_var rfl ?_
      refine y_cons ?_
      refine y_var rfl ?_
      refine y_nil ?_
      refine ⟨(g_found_ ++ (g_table_ ++ amb)), _, _, _, _, _, _, _, _, _, rfl, z, (LV.sub d_web_ (mgS (mgS mgE))), (LV.of d_called_), (OL.lv d_table_ (mgS mg0)), (Dq.int _), ?_⟩
      refine run_mono3 hw (fun t14 hw v H Ho e z d15 => ?_)
      replace d_called_ := D.mo d_called_ e
      replace d_found_ := OL.mo d_found_ e
      replace d_table_ := OL.mo d_table_ e
      replace d_web_ := LV.mo d_web_ e
      have es17 := (Same.refl _).trans e
      refine l_u2 hw d15 (fun u18 d19 hw => ?_)
      obtain ⟨known_, firsts_⟩ := u18
      refine c_gt2 (fun v_known_ v_firsts_ => [_, _, _, _, _, some v_known_, some v_firsts_, _]) (fun _ _ => rfl) d19 z (fun v_known_ v_firsts_ d_known_ d_firsts_ => ?_)
      refine y_drop ?_
      refine y_bm ?_
      refine y_var rfl ?_
      refine g_tyL (OL.lv d_table_ (mgS mg0)) z ?_
      refine y_cons ?_
      refine y_var rfl ?_
      refine y_nil ?_
      replace z : Zs (g_table_ ++ (g_found_ ++ amb)) _ _ := z.go [g_found_, g_table_] amb [1, 0]
      refine g_app z d_table_ d_known_ hw (fun table_ g_table_ H z d_table_ hw => ?_)
      refine y_drop ?_
      refine y_bm ?_
      refine y_var rfl ?_
      refine g_tyL (OL.lv d_found_ (mgS mg0)) z ?_
      refine y_cons ?_
      refine y_lc ?_
      refine k_iList ?_
      refine y_var rfl ?_
      refine k_srcL (r0 := ([] : Grp)) (LV.of d_firsts_) mgN z (fun J T => ?_)
      refine y_lcG z mgN T hw (fun r20 i_ v_i_ H Ho N N' e z d_i_ hw => ?_) (fun t31 H Ho e hw p28 ws29 z d30 => ?_)
      · replace z : Zs ([r20] ++ (g_table_ ++ (g_found_ ++ amb))) H Ho := z
        replace d_called_ := D.mo d_called_ e
        replace d_firsts_ := D.mo d_firsts_ e
        replace d_found_ := OL.mo d_found_ e
        replace d_known_ := D.mo d_known_ e
        replace d_table_ := OL.mo d_table_ e
        replace d_web_ := LV.mo d_web_ e
        have es21 := es17.trans e
        obtain rfl := d_int d_i_
        refine y_gname (σ' := [some v_web_, some v_called_, some v_table_, some v_found_, some (V.int j_), some v_known_, some v_firsts_, some (V.int i_)]) rfl ?_
        refine ⟨rfl, ?_⟩
        refine y_yes (w_t ?_)
        replace hw := run_itT (run_bret hw) rfl
        refine y_op ?_
        refine y_op ?_
        refine y_var rfl ?_
        refine y_var rfl ?_
        refine y_ixL (LV.of d_called_) z hw (fun t22 w d23 hw => ?_)
        refine y_op ?_
        refine y_var rfl ?_
        refine y_var rfl ?_
        refine y_ixL (LV.of d_called_) z hw (fun t24 w d25 hw => ?_)
        refine y_cat22 d23 d25 z (fun p H Ho e z d26 => ?_)
        replace d_called_ := D.mo d_called_ e
        replace d_firsts_ := D.mo d_firsts_ e
        replace d_found_ := OL.mo d_found_ e
        replace d_known_ := D.mo d_known_ e
        replace d_table_ := OL.mo d_table_ e
        replace d_web_ := LV.mo d_web_ e
        have es27 := (Same.refl _).trans e
        exact (run_ret hw) _ _ _ es27 z d26
      replace d_called_ := D.mo d_called_ e
      replace d_firsts_ := D.mo d_firsts_ e
      replace d_found_ := OL.mo d_found_ e
      replace d_known_ := D.mo d_known_ e
      replace d_table_ := OL.mo d_table_ e
      replace d_web_ := LV.mo d_web_ e
      have es32 := es17.trans e
      replace z : Zs ([(p28, HO.lst ws29)] ++ (g_table_ ++ (g_found_ ++ amb))) H Ho := z
      have o33 := OL.mk (p := p28) d30
      refine y_nil ?_
      replace z : Zs ([(p28, HO.lst ws29)] ++ (g_found_ ++ (g_table_ ++ amb))) _ _ := z.go [[(p28, HO.lst ws29)], g_table_, g_found_] amb [0, 2, 1]
      refine g_ext z d_found_ o33 hw (fun found_ g_found_ H z d_found_ hw => ?_)
      exact (run_ret hw) _ _ _ es32 ⟨_, _, _, _, _, rfl, z, d_table_, d_found_⟩
    intro s σ H Ho e hI hw
    obtain ⟨table_, found_⟩ := s
    obtain ⟨g_table_, g_found_, y_j_, y_known_, y_firsts_, rfl, z, d_table_, d_found_⟩ := hI
    have es34 := es4.trans e
    refine y_ret ?_
    refine y_cb ?_
    refine y_cons ?_
    refine y_var rfl ?_
    refine y_nil ?_
    refine y_sortK (α := (P4 Int Int Int Int)) (OL.lv d_found_ mg0) z (fun H p35 ws36 z d37 => ?_)
    replace z : Zs ([(p35, HO.lst ws36)] ++ (g_found_ ++ (g_table_ ++ amb))) H Ho := z
    have o38 := OL.mk (p := p35) d37
    refine l_fr o38 z (fun Ho e z d39 => ?_)
    replace d_found_ := OL.mo d_found_ e
    replace d_table_ := OL.mo d_table_ e
    have es40 := es34.trans e
    replace z : Zs amb _ _ := z.go [g_found_, g_table_] amb []
    exact (run_ret hw) _ _ _ es40 z d39
def sp_ends_of (K : PySem.W.Frag) (cl : Nat → Addr) : Sp := fun vs H Q E => ∃ (amb : Grp) (Ho : Hp) (v0 : V) (x0 : (Dc (Int × Int) Int)) (v1 : V) (x1 : (P4 Int Int Int Int)), vs = [v0, v1] ∧ Zs amb H Ho ∧ BD K amb Ho v0 x0 ∧ Z.D K Ho v1 x1 ∧ (m_ends_of x0 x1).run fun r => ∀ v H' Ho', Same Ho Ho' → Zs amb H' Ho' → Z.D K Ho' v r → Q v H'
abbrev s_ends_of : Stmt := topS 12
theorem sc_ends_of : FnScope ["places", "note", "one", "other"] ["places", "note"] (defScope s_ends_of) := ⟨rfl, rfl, rfl, by decide +kernel, rfl, by decide +kernel, by decide +kernel⟩
theorem ok_ends_of {f : Addr} {fd : FuncData} (F : Fun K "ends_of" "ends_of" s_ends_of f fd) :
    FnOk P w K mg base CX0 1 f fd ["places", "note"] (sp_ends_of K cl) := by
  refine F.ok sc_ends_of (fun vs H Q E h => ?_) (fun cdv A outer s H vs Q E hr h => ?_)
  · obtain ⟨amb, Ho, v_places_, places_, v_note_, note_, rfl, _⟩ := h
    rfl
  · obtain ⟨amb, Ho, v_places_, places_, v_note_, note_, rfl, z, d_places_, d_note_, hw⟩ := h
    refine ⟨_, pss_cons (ps_set (i := 2) sc_ends_of.nd rfl (Or.inl rfl) (pe_dget1 (room1 hr) (pv 0) (pe_tup (pa_cons (pe_ix (zix_tup (K := K) rfl) (pv 1) (pe_int) (fun _ _ => rfl)) (pa_cons (pe_ix (zix_tup (K := K) rfl) (pv 1) (pe_int) (fun _ _ => rfl)) (pa_nil)))) ⟨by rfl, by rfl, by rfl, by rfl⟩)) (pss_cons (ps_set (i := 3) sc_ends_of.nd rfl (Or.inl rfl) (pe_dget1 (room1 hr) (pv 0) (pe_tup (pa_cons (pe_ix (zix_tup (K := K) rfl) (pv 1) (pe_int) (fun _ _ => rfl)) (pa_cons (pe_ix (zix_tup (K := K) rfl) (pv 1) (pe_int) (fun _ _ => rfl)) (pa_nil)))) ⟨by rfl, by rfl, by rfl, by rfl⟩)) (pss_cons (ps_if (PW.pt (pw_or (pt_cmpR (op_eq) (pe_ix (zix_tup (K := K) rfl) (pv 1) (pe_int) (fun _ _ => rfl)) (pe_ix (zix_tup (K := K) rfl) (pv 1) (pe_int) (fun _ _ => rfl)) (nomark _)) (pw_or (pt_cmpR (op_isN) (pv 2) (pe_non) (nomark _)) (pw_or (pt_cmpR (op_isN) (pv 3) (pe_non) (nomark _)) (pw_or1 (pt_cmpR (op_ge) (pv 2) (pv 3) (nomark _))))))) (pss_cons (ps_never) (pss_nil)) (pss_nil)) (pss_cons (ps_ret (pe_tup (pa_cons (pv 2) (pa_cons (pv 3) (pa_nil))))) (pss_nil)))), ?_⟩
    refine l_asg (fun v => [_, _, some v, _]) (fun _ => rfl) ?_
    refine y_dget1 ?_
    refine y_var rfl ?_
    refine g_isd (BD.sub d_places_ mgE) z (fun a1 ea1 => ?_)
    refine k_tup ?_
    refine y_cons ?_
    refine y_op ?_
    refine y_var rfl ?_
    refine y_c ?_
    refine y_ixT (y := note_.a) d_note_ z ⟨_, rfl, rfl⟩ (fun w d2 => ?_)
    first | obtain rfl := d_int d2 | cases d_int d2
    refine y_cons ?_
    refine y_op ?_
    refine y_var rfl ?_
    refine y_c ?_
    refine y_ixT (y := note_.b) d_note_ z ⟨_, rfl, rfl⟩ (fun w d3 => ?_)
    first | obtain rfl := d_int d3 | cases d_int d3
    refine y_nil ?_
    refine k_tupk (K := K) (x := (note_.a, note_.b)) z (by show 2 ≤ sizeLine; decide) _ rfl (DqAll.cons (Dq.int _) (DqAll.cons (Dq.int _) DqAll.nil)) (fun p H Ho e z d4 => ?_)
    replace d_note_ := D.mo d_note_ e
    replace d_places_ := BD.mo d_places_ e
    have es5 := (Same.refl _).trans e
    refine g_dget1 ea1 (BD.sub d_places_ mgE) z d4 (fun w d6 => ?_)
    refine l_d (K := K) (Ho := Ho) hw d6 (fun one_ v_one_ d_one_ hw => ?_)
    refine l_asg (fun v => [_, _, _, some v]) (fun _ => rfl) ?_
    refine y_dget1 ?_
    refine y_var rfl ?_
    refine g_isd (BD.sub d_places_ mgE) z (fun a7 ea7 => ?_)
    refine k_tup ?_
    refine y_cons ?_
    refine y_op ?_
    refine y_var rfl ?_
    refine y_c ?_
    refine y_ixT (y := note_.c) d_note_ z ⟨_, rfl, rfl⟩ (fun w d8 => ?_)
    first | obtain rfl := d_int d8 | cases d_int d8
    refine y_cons ?_
    refine y_op ?_
    refine y_var rfl ?_
    refine y_c ?_
    refine y_ixT (y := note_.d) d_note_ z ⟨_, rfl, rfl⟩ (fun w d9 => ?_)
    first | obtain rfl := d_int d9 | cases d_int d9
    refine y_nil ?_
    refine k_tupk (K := K) (x := (note_.c, note_.d)) z (by show 2 ≤ sizeLine; decide) _ rfl (DqAll.cons (Dq.int _) (DqAll.cons (Dq.int _) DqAll.nil)) (fun p H Ho e z d10 => ?_)
    replace d_note_ := D.mo d_note_ e
    replace d_one_ := D.mo d_one_ e
    replace d_places_ := BD.mo d_places_ e
    have es11 := es5.trans e
    refine g_dget1 ea7 (BD.sub d_places_ mgE) z d10 (fun w d12 => ?_)
    refine l_d (K := K) (Ho := Ho) hw d12 (fun other_ v_other_ d_other_ hw => ?_)
    refine y_ifS ?_
    refine y_or ?_
    refine y_test ?_
    refine y_op ?_
    refine y_op ?_
    refine y_var rfl ?_
    refine y_c ?_
    refine y_ixT (y := note_.a) d_note_ z ⟨_, rfl, rfl⟩ (fun w d13 => ?_)
    first | obtain rfl := d_int d13 | cases d_int d13
    refine y_op ?_
    refine y_var rfl ?_
    refine y_c ?_
    refine y_ixT (y := note_.c) d_note_ z ⟨_, rfl, rfl⟩ (fun w d14 => ?_)
    first | obtain rfl := d_int d14 | cases d_int d14
    refine y_eqi ?_
    refine ⟨_, rfl, ?_⟩
    refine w_orJ hw (fun (s : Bool) (v : Bool) (H2 : Hp) => ∃ (Ho2 : Hp), Same Ho Ho2 ∧ Zs amb H2 Ho2 ∧ v = s) (fun hb hw => ?_) (fun hb hw => ?_) ?_
    · exact (run_ret hw) _ _ ⟨_, (Same.refl _), z, rfl⟩
    · refine y_or ?_
      refine y_test ?_
      refine y_op ?_
      refine y_var rfl ?_
      refine y_c ?_
      refine ⟨rfl, ?_⟩
      rw [dec_non d_one_ hw.1]
      replace hw := (run_gd hw).2
      refine ⟨_, rfl, ?_⟩
      refine w_orJ hw (fun (s : Bool) (v : Bool) (H2 : Hp) => ∃ (Ho2 : Hp), Same Ho Ho2 ∧ Zs amb H2 Ho2 ∧ v = s) (fun hb hw => ?_) (fun hb hw => ?_) ?_
      · exact (run_ret hw) _ _ ⟨_, (Same.refl _), z, rfl⟩
      · refine y_or ?_
        refine y_test ?_
        refine y_op ?_
        refine y_var rfl ?_
        refine y_c ?_
        refine ⟨rfl, ?_⟩
        rw [dec_non d_other_ hw.1]
        replace hw := (run_gd hw).2
        refine ⟨_, rfl, ?_⟩
        refine w_orJ hw (fun (s : Bool) (v : Bool) (H2 : Hp) => ∃ (Ho2 : Hp), Same Ho Ho2 ∧ Zs amb H2 Ho2 ∧ v = s) (fun hb hw => ?_) (fun hb hw => ?_) ?_
        · exact (run_ret hw) _ _ ⟨_, (Same.refl _), z, rfl⟩
        · refine y_test ?_
          refine y_op ?_
          refine y_var rfl ?_
          refine y_get d_one_ hw (fun t15 d16 hw => ?_)
          first | obtain rfl := d_int d16 | cases d_int d16
          refine y_var rfl ?_
          refine y_get d_other_ hw (fun t17 d18 hw => ?_)
          first | obtain rfl := d_int d18 | cases d_int d18
          refine y_i0 ?_
          refine ⟨_, rfl, ?_⟩
          exact (run_ret hw) _ _ ⟨_, (Same.refl _), z, rfl⟩
        rintro t19 v H ⟨Ho, e, z, rfl⟩ hw
        replace d_one_ := D.mo d_one_ e
        replace d_other_ := D.mo d_other_ e
        have es22 := (Same.refl _).trans e
        exact (run_ret hw) _ _ ⟨_, es22, z, rfl⟩
      rintro t23 v H ⟨Ho, e, z, rfl⟩ hw
      replace d_one_ := D.mo d_one_ e
      replace d_other_ := D.mo d_other_ e
      have es26 := (Same.refl _).trans e
      exact (run_ret hw) _ _ ⟨_, es26, z, rfl⟩
    rintro t27 v H ⟨Ho, e, z, rfl⟩ hw
    replace d_one_ := D.mo d_one_ e
    replace d_other_ := D.mo d_other_ e
    have es30 := es11.trans e
    refine y_cases hw (fun hb hw => ?_) (fun hb hw => ?_)
    · exact hw.elim
    · refine y_nxS ?_
      refine y_ret ?_
      refine k_tup ?_
      refine y_cons ?_
      refine y_var rfl ?_
      refine y_get d_one_ hw (fun t31 d32 hw => ?_)
      first | obtain rfl := d_int d32 | cases d_int d32
      refine y_cons ?_
      refine y_var rfl ?_
      refine y_get d_other_ hw (fun t33 d34 hw => ?_)
      first | obtain rfl := d_int d34 | cases d_int d34
      refine y_nil ?_
      refine k_tupk (K := K) (x := (t31, t33)) z (by show 2 ≤ sizeLine; decide) _ rfl (DqAll.cons (Dq.int _) (DqAll.cons (Dq.int _) DqAll.nil)) (fun p H Ho e z d35 => ?_)
      replace d_one_ := D.mo d_one_ e
      replace d_other_ := D.mo d_other_ e
      have es36 := es30.trans e
      exact (run_ret hw) _ _ _ es36 z d35
def sp_known_by (K : PySem.W.Frag) (cl : Nat → Addr) : Sp := fun vs H Q E => ∃ (amb : Grp) (Ho : Hp) (v0 : V) (x0 : (List (P3 Int Str Int))) (v1 : V) (x1 : (List (Int × Int))), vs = [v0, v1] ∧ Zs amb H Ho ∧ LV K amb Ho v0 x0 ∧ LV K amb Ho v1 x1 ∧ (m_known_by x0 x1).run fun r => ∀ v H' Ho', Same Ho Ho' → Zs amb H' Ho' → Z.D K Ho' v r → Q v H'
abbrev s_known_by : Stmt := topS 13
theorem sc_known_by : FnScope ["web", "ends", "called", "last", "table", "j", "hand", "k", "known", "one", "other", "a", "b"] ["web", "ends"] (defScope s_known_by) := ⟨rfl, rfl, rfl, by decide +kernel, rfl, by decide +kernel, by decide +kernel⟩
theorem ok_known_by {f : Addr} {fd : FuncData} (F : Fun K "known_by" "known_by" s_known_by f fd) {f_names : Addr} {fd_names : FuncData} (c_names : Cal P w K mg base CX0 "names" ["web"] 1 (sp_names K cl) f_names fd_names) (m_len : mg "len" = none) (m_range : mg "range" = none) (m_list : mg "list" = none) (m_zip : mg "zip" = none) (m_max : mg "max" = none) :
    FnOk P w K mg base CX0 2 f fd ["web", "ends"] (sp_known_by K cl) := by
  refine F.ok sc_known_by (fun vs H Q E h => ?_) (fun cdv A outer s H vs Q E hr h => ?_)
  · obtain ⟨amb, Ho, v_web_, web_, v_ends_, ends_, rfl, _⟩ := h
    rfl
  · obtain ⟨amb, Ho, v_web_, web_, v_ends_, ends_, rfl, z, d_web_, d_ends_, hw⟩ := h
    refine ⟨_, pss_cons (ps_set (i := 2) sc_known_by.nd rfl (Or.inl rfl) (pe_call c_names.ok (hr.mono (by decide)) (by rfl) c_names.g c_names.kp c_names.b .nil pass0 (pa_cons (pv 0) (pa_nil)))) (pss_cons (ps_set (i := 3) sc_known_by.nd rfl (Or.inl rfl) (pe_dnewK)) (pss_cons (ps_set (i := 4) sc_known_by.nd rfl (Or.inl rfl) (pe_lst (pa_nil))) (pss_cons (ps_for PassesOwn.never rfl (pi_range1 (by rfl) m_range (pa_cons (pe_callB (zlen (K := K) rfl) (by rfl) m_len (by decide +kernel) (pa_cons (pv 0) (pa_nil))) (pa_nil))) (pg_name (i := 5) sc_known_by.nd rfl (Or.inl rfl)) (pss_cons (ps_asg (pe_ix (zix_list (K := K) rfl) (pv 2) (pv 5) (fun _ _ => rfl)) (zpg_tup (K := K) (n := 2) rfl rfl (pgs_cons (pg_name (i := 6) sc_known_by.nd rfl (Or.inl rfl)) (pgs_cons (pg_name (i := 7) sc_known_by.nd rfl (Or.inl rfl)) (pgs_nil))))) (pss_cons (ps_set (i := 8) sc_known_by.nd rfl (Or.inl rfl) (pe_callTy (zlist (K := K) rfl) (by rfl) m_list (by decide +kernel) (pa_cons (pe_dget2 (room1 hr) (pv 3) (pv 6) (pe_op op_rep (pe_lst (pa_cons (pe_int) (pa_nil))) (pe_int)) ⟨by rfl, by rfl, by rfl, by rfl⟩) (pa_nil)))) (pss_cons (ps_for PassesOwn.never rfl (zpi_list (K := K) rfl (pv 1)) (zpg_tup (K := K) (n := 2) rfl rfl (pgs_cons (pg_name (i := 9) sc_known_by.nd rfl (Or.inl rfl)) (pgs_cons (pg_name (i := 10) sc_known_by.nd rfl (Or.inl rfl)) (pgs_nil)))) (pss_cons (ps_if (pt_cmpR (op_eq) (pv 10) (pv 5) (nomark _)) (pss_cons (ps_setLc (i := 8) (own := [("a", 11), ("b", 12)]) rfl sc_known_by.nd rfl rfl (sw_true rfl rfl rfl (by decide +kernel)) (zpi_zip (K := K) rfl (by rfl) m_zip (pa_cons (pv 8) (pa_cons (pe_ix (zix_list (K := K) rfl) (pv 4) (pv 9) (fun _ _ => rfl)) (pa_nil)))) (blkOk_by (N := ["web", "ends", "called", "last", "table", "j", "hand", "k", "known", "one", "other", "a", "b"]) (sc := defScope s_known_by) (by decide +kernel)) (fun _ _ _ _ _ => zpg_tup (K := K) (n := 2) rfl rfl (pgs_cons (pg_name (i := 11) sc_known_by.nd rfl (Or.inl rfl)) (pgs_cons (pg_name (i := 12) sc_known_by.nd rfl (Or.inl rfl)) (pgs_nil)))) (fun _ _ _ _ _ => pts_nil) (fun _ _ _ _ _ => pe_callB (call_max2 rfl) (by rfl) m_max (by decide +kernel) (pa_cons (pv 11) (pa_cons (pv 12) (pa_nil))))) (pss_nil)) (pss_nil)) (pss_nil))) (pss_cons (ps_asg (pe_op op_add (pv 7) (pe_int)) (pg_sub (pv 8) (pv 6) set_list)) (pss_cons (ps_dput (room1 hr) (pv 3) (pv 6) (pv 8) (by rfl)) (pss_cons (ps_expr (pe_bm PySem.F.plainAttrs_list PySem.F.slot_list_append PySem.F.type_list_append mt_append (pv 4) (pa_cons (pv 8) (pa_nil)))) (pss_nil)))))))) (pss_cons (ps_ret (pv 4)) (pss_nil))))), ?_⟩
    refine l_asg (fun v => [_, _, some v, _, _, _, _, _, _, _, _, _, _]) (fun _ => rfl) ?_
    refine y_call ?_
    refine y_cons ?_
    refine y_var rfl ?_
    refine y_nil ?_
    refine ⟨amb, _, _, _, rfl, z, (LV.sub d_web_ mgE), ?_⟩
    refine run_mono3 hw (fun t1 hw v H Ho e z d2 => ?_)
    replace d_ends_ := LV.mo d_ends_ e
    replace d_web_ := LV.mo d_web_ e
    have es4 := (Same.refl _).trans e
    refine l_d (K := K) (Ho := Ho) hw d2 (fun called_ v_called_ d_called_ hw => ?_)
    refine l_asg (fun v => [_, _, _, some v, _, _, _, _, _, _, _, _, _]) (fun _ => rfl) ?_
    refine g_dnewK (K := K) (α := (List Int)) z (fun H v5 g6 z o7 => ?_)
    refine d_o hw z o7 (fun last_ v_last_ g_last_ z d_last_ hw => ?_)
    refine l_asg (fun v => [_, _, _, _, some v, _, _, _, _, _, _, _, _]) (fun _ => rfl) ?_
    refine k_lst ?_
    refine y_nil ?_
    refine k_lstk (K := K) (xs := ([] : (List (List Int)))) z DqAll.nil (by show 0 ≤ sizeLine; decide) (fun H p8 ws9 z d10 => ?_)
    replace z : Zs ([(p8, HO.lst ws9)] ++ (g_last_ ++ amb)) H Ho := z
    have o11 := OL.mk (p := p8) d10
    refine l_o hw z o11 (fun table_ v_table_ g_table_ z d_table_ hw => ?_)
    refine y_for ?_
    refine k_iR1 ?_
    refine y_cons ?_
    refine y_cb ?_
    refine y_cons ?_
    refine y_var rfl ?_
    refine y_nil ?_
    refine y_len (LV.sub d_web_ (mgS (mgS mgE))) z ?_
    refine y_nil ?_
    refine k_srcR1 (K := K) (Ho := Ho) hw.1 (fun J T => ?_)
    replace hw := (run_gd hw).2
    refine y_forL T hw (fun (s : (Dc Int (List Int)) × (List (List Int))) (σ : L2.St) (H Ho : Hp) => ∃ (g_last_ : Grp) (g_table_ : Grp) (y_j_ : Option V) (y_hand_ : Option V) (y_k_ : Option V) (y_known_ : Option V) (y_one_ : Option V) (y_other_ : Option V), σ = [some v_web_, some v_ends_, some v_called_, some v_last_, some v_table_, y_j_, y_hand_, y_k_, y_known_, y_one_, y_other_, none, none] ∧ Zs (g_table_ ++ (g_last_ ++ amb)) H Ho ∧ OD K Ho v_last_ s.1 g_last_ ∧ OL K Ho v_table_ s.2 g_table_) ⟨_, _, _, _, _, _, _, _, rfl, z, d_last_, d_table_⟩ ?_ ?_ ?_ ?_
    · intro s σ H Ho hI
      obtain ⟨last_, table_⟩ := s
      obtain ⟨g_last_, g_table_, y_j_, y_hand_, y_k_, y_known_, y_one_, y_other_, rfl, z, d_last_, d_table_⟩ := hI
      exact ⟨_, z, mgN⟩
    · intro s σ H Ho H2 Ho2 hI e t
      obtain ⟨last_, table_⟩ := s
      obtain ⟨g_last_, g_table_, y_j_, y_hand_, y_k_, y_known_, y_one_, y_other_, rfl, z, d_last_, d_table_⟩ := hI
      exact ⟨_, _, _, _, _, _, _, _, rfl, t _ z, OD.mo d_last_ e, OL.mo d_table_ e⟩
    · intro j_ v_j_ s σ H Ho N e hI d_j_ hw
      obtain ⟨last_, table_⟩ := s
      obtain ⟨g_last_, g_table_, y_j_, y_hand_, y_k_, y_known_, y_one_, y_other_, rfl, z, d_last_, d_table_⟩ := hI
      replace d_called_ := D.mo d_called_ e
      replace d_ends_ := LV.mo d_ends_ e
      have es12 := es4.trans e
      obtain rfl := d_int d_j_
      refine y_gname (σ' := [some v_web_, some v_ends_, some v_called_, some v_last_, some v_table_, some (V.int j_), y_hand_, y_k_, y_known_, y_one_, y_other_, none, none]) rfl ?_
      refine y_asgG ?_
      refine y_op ?_
      refine y_var rfl ?_
      refine y_var rfl ?_
      refine y_ixL (LV.of d_called_) z hw (fun t13 w d14 hw => ?_)
      refine l_u2 hw d14 (fun u15 d16 hw => ?_)
      obtain ⟨hand_, k_⟩ := u15
      refine c_gt2 (fun v_hand_ v_k_ => [_, _, _, _, _, _, some v_hand_, some v_k_, _, _, _, _, _]) (fun _ _ => rfl) d16 z (fun v_hand_ v_k_ d_hand_ d_k_ => ?_)
      obtain rfl := d_int d_hand_
      obtain rfl := d_int d_k_
      refine l_asg (fun v => [_, _, _, _, _, _, _, _, some v, _, _, _, _]) (fun _ => rfl) ?_
      refine y_cb ?_
      refine y_cons ?_
      refine y_dget2 ?_
      refine y_var rfl ?_
      refine g_isd ⟨_, d_last_, (mgS mg0)⟩ z (fun a17 ea17 => ?_)
      refine y_var rfl ?_
      refine y_op ?_
      refine k_lst ?_
      refine y_cons ?_
      refine y_c ?_
      refine y_nil ?_
      refine k_lstk (K := K) (xs := ([(0 : Int)] : (List Int))) z (DqAll.cons (Dq.int _) DqAll.nil) (by show 1 ≤ sizeLine; decide) (fun H p18 ws19 z d20 => ?_)
      replace z : Zs ([(p18, HO.lst ws19)] ++ (g_table_ ++ (g_last_ ++ amb))) H Ho := z
      have o21 := OL.mk (p := p18) d20
      refine y_c ?_
      refine y_rep z d20 hw.1 (fun H p22 ws23 z d24 => ?_)
      replace hw := (run_gd hw).2
      replace z : Zs ([(p22, HO.lst ws23)] ++ (g_table_ ++ (g_last_ ++ amb))) H Ho := z
      have o25 := OL.mk (p := p22) d24
      refine l_fr o25 z (fun Ho e z d26 => ?_)
      replace d_called_ := D.mo d_called_ e
      replace d_ends_ := LV.mo d_ends_ e
      replace d_last_ := OD.mo d_last_ e
      replace d_table_ := OL.mo d_table_ e
      have es27 := (Same.refl _).trans e
      refine g_dget2 ea17 ⟨_, d_last_, (mgS mg0)⟩ z (Dq.int _) d26 (fun w d28 => ?_)
      refine y_nil ?_
      refine y_list (LV.of d28) z (fun H p29 ws30 z d31 => ?_)
      replace z : Zs ([(p29, HO.lst ws30)] ++ (g_table_ ++ (g_last_ ++ amb))) H Ho := z
      have o32 := OL.mk (p := p29) d31
      refine l_o hw z o32 (fun known_ v_known_ g_known_ z d_known_ hw => ?_)
      refine y_for ?_
      refine k_iList ?_
      refine y_var rfl ?_
      refine k_srcL (r0 := amb) (LV.sub d_ends_ mgE) (mgS (mgS (mgS mgE))) z (fun J T => ?_)
      refine y_forL T hw (fun (s : (List Int)) (σ : L2.St) (H Ho : Hp) => ∃ (v_known_ : V) (g_known_ : Grp) (y_one_ : Option V) (y_other_ : Option V), σ = [some v_web_, some v_ends_, some v_called_, some v_last_, some v_table_, some (V.int j_), some (V.int hand_), some (V.int k_), some v_known_, y_one_, y_other_, none, none] ∧ Zs (g_known_ ++ (g_table_ ++ (g_last_ ++ amb))) H Ho ∧ OL K Ho v_known_ s g_known_) ⟨_, _, _, _, rfl, z, d_known_⟩ ?_ ?_ ?_ ?_
      · intro s σ H Ho hI
        obtain ⟨v_known_, g_known_, y_one_, y_other_, rfl, z, d_known_⟩ := hI
        exact ⟨_, z, (mgS (mgS (mgS mgE)))⟩
      · intro s σ H Ho H2 Ho2 hI e t
        obtain ⟨v_known_, g_known_, y_one_, y_other_, rfl, z, d_known_⟩ := hI
        exact ⟨_, _, _, _, rfl, t _ z, OL.mo d_known_ e⟩
      · intro a x s σ H Ho N e hI dx hw
        obtain ⟨known_, rfl⟩ : ∃ q, q = s := ⟨_, rfl⟩
        obtain ⟨v_known_, g_known_, y_one_, y_other_, rfl, z, d_known_⟩ := hI
        replace d_called_ := D.mo d_called_ e
        replace d_ends_ := LV.mo d_ends_ e
        replace d_last_ := OD.mo d_last_ e
        replace d_table_ := OL.mo d_table_ e
        have es33 := es27.trans e
        obtain ⟨one_, other_⟩ := a
        refine c_gt2 (fun v_one_ v_other_ => [some v_web_, some v_ends_, some v_called_, some v_last_, some v_table_, some (V.int j_), some (V.int hand_), some (V.int k_), some v_known_, some v_one_, some v_other_, none, none]) (fun _ _ => rfl) dx z (fun v_one_ v_other_ d_one_ d_other_ => ?_)
        obtain rfl := d_int d_one_
        obtain rfl := d_int d_other_
        refine y_ifS ?_
        refine y_test ?_
        refine y_op ?_
        refine y_var rfl ?_
        refine y_var rfl ?_
        refine y_eqi ?_
        refine ⟨_, rfl, ?_⟩
        refine w_ifJ hw (fun (s : (List Int)) (σ : L2.St) (H : Hp) => ∃ Ho2, Same Ho Ho2 ∧ (fun (s : (List Int)) (σ : L2.St) (H Ho : Hp) => ∃ (v_known_ : V) (g_known_ : Grp), σ = [some v_web_, some v_ends_, some v_called_, some v_last_, some v_table_, some (V.int j_), some (V.int hand_), some (V.int k_), some v_known_, some (V.int one_), some (V.int other_), none, none] ∧ Zs (g_known_ ++ (g_table_ ++ (g_last_ ++ amb))) H Ho ∧ OL K Ho v_known_ s g_known_) s σ H Ho2) (fun hb hw => ?_) (fun hb hw => ?_) ?_
        · refine l_asg (fun v => [_, _, _, _, _, _, _, _, some v, _, _, _, _]) (fun _ => rfl) ?_
          refine y_lc ?_
          refine k_iZip ?_
          refine y_cons ?_
          refine y_var rfl ?_
          refine y_cons ?_
          refine y_op ?_
          refine y_var rfl ?_
          refine y_var rfl ?_
          refine y_ixL (OL.lv d_table_ (mgS mg0)) z hw (fun t34 w d35 hw => ?_)
          refine y_nil ?_
          refine k_srcZ (r0 := g_known_) (OL.lv d_known_ mgE) (LV.of d35) mg0 z (fun J T => ?_)
          refine y_lcG z mg0 T hw (fun r36 a x H Ho N N' e z dx hw => ?_) (fun t41 H Ho e hw p38 ws39 z d40 => ?_)
          · replace z : Zs ([r36] ++ (g_known_ ++ (g_table_ ++ (g_last_ ++ amb)))) H Ho := z
            replace d_called_ := D.mo d_called_ e
            replace d_ends_ := LV.mo d_ends_ e
            replace d_known_ := OL.mo d_known_ e
            replace d_last_ := OD.mo d_last_ e
            replace d_table_ := OL.mo d_table_ e
            have es37 := (Same.refl _).trans e
            obtain ⟨a_, b_⟩ := a
            refine c_gt2 (fun v_a_ v_b_ => [some v_web_, some v_ends_, some v_called_, some v_last_, some v_table_, some (V.int j_), some (V.int hand_), some (V.int k_), some v_known_, some (V.int one_), some (V.int other_), some v_a_, some v_b_]) (fun _ _ => rfl) dx z (fun v_a_ v_b_ d_a_ d_b_ => ?_)
            obtain rfl := d_int d_a_
            obtain rfl := d_int d_b_
            refine ⟨rfl, ?_⟩
            refine y_yes (w_t ?_)
            replace hw := run_itT (run_bret hw) rfl
            refine y_cb ?_
            refine y_cons ?_
            refine y_var rfl ?_
            refine y_cons ?_
            refine y_var rfl ?_
            refine y_nil ?_
            refine ⟨_, _, rfl, ?_⟩
            exact (run_ret hw) _ _ _ (Same.refl _) z (Dq.int _)
          replace d_called_ := D.mo d_called_ e
          replace d_ends_ := LV.mo d_ends_ e
          replace d_known_ := OL.mo d_known_ e
          replace d_last_ := OD.mo d_last_ e
          replace d_table_ := OL.mo d_table_ e
          have es42 := (Same.refl _).trans e
          replace z : Zs ([(p38, HO.lst ws39)] ++ (g_known_ ++ (g_table_ ++ (g_last_ ++ amb)))) H Ho := z
          have o43 := OL.mk (p := p38) d40
          replace z : Zs ([(p38, HO.lst ws39)] ++ (g_table_ ++ (g_last_ ++ amb))) _ _ := z.go [[(p38, HO.lst ws39)], g_known_, g_table_, g_last_] amb [0, 2, 3]
          refine l_o hw z o43 (fun known_ v_known_ g_known_ z d_known_ hw => ?_)
          exact (run_ret hw) _ _ ⟨_, es42, ⟨_, _, rfl, z, d_known_⟩⟩
        · refine y_nxS ?_
          exact (run_ret hw) _ _ ⟨_, (Same.refl _), ⟨_, _, rfl, z, d_known_⟩⟩
        rintro known_ σ H ⟨Ho, e, v_known_, g_known_, rfl, z, d_known_⟩ hw
        replace d_called_ := D.mo d_called_ e
        replace d_ends_ := LV.mo d_ends_ e
        replace d_last_ := OD.mo d_last_ e
        replace d_table_ := OL.mo d_table_ e
        have es44 := (Same.refl _).trans e
        exact (run_ret hw) _ _ _ es44 ⟨_, _, _, _, rfl, z, d_known_⟩
      intro s σ H Ho e hI hw
      obtain ⟨known_, rfl⟩ : ∃ q, q = s := ⟨_, rfl⟩
      obtain ⟨v_known_, g_known_, y_one_, y_other_, rfl, z, d_known_⟩ := hI
      replace d_called_ := D.mo d_called_ e
      replace d_ends_ := LV.mo d_ends_ e
      replace d_last_ := OD.mo d_last_ e
      replace d_table_ := OL.mo d_table_ e
      have es45 := es27.trans e
      refine y_asgG ?_
      refine y_op ?_
      refine y_var rfl ?_
      refine y_c ?_
      refine y_i0 ?_
      refine y_gsub ?_
      refine y_var rfl ?_
      refine y_var rfl ?_
      refine g_sti z d_known_ (Dq.int _) hw (fun known_ g_known_ H z d_known_ hw => ?_)
      refine y_dput ?_
      refine y_var rfl ?_
      refine l_fr d_known_ z (fun Ho e z d_known_ => ?_)
      replace d_called_ := D.mo d_called_ e
      replace d_ends_ := LV.mo d_ends_ e
      replace d_last_ := OD.mo d_last_ e
      replace d_table_ := OL.mo d_table_ e
      have es46 := es45.trans e
      refine y_var rfl ?_
      refine y_var rfl ?_
      replace z : Zs (g_last_ ++ (g_table_ ++ amb)) _ _ := z.go [g_table_, g_last_] amb [1, 0]
      refine g_dput z d_last_ (Dq.int _) d_known_ hw (fun last_ g_last_ H z d_last_ hw => ?_)
      refine y_drop ?_
      refine y_bm ?_
      refine y_var rfl ?_
      refine g_tyL (OL.lv d_table_ (mgS mg0)) z ?_
      refine y_cons ?_
      refine y_var rfl ?_
      refine y_nil ?_
      replace z : Zs (g_table_ ++ (g_last_ ++ amb)) _ _ := z.go [g_last_, g_table_] amb [1, 0]
      refine g_app z d_table_ d_known_ hw (fun table_ g_table_ H z d_table_ hw => ?_)
      exact (run_ret hw) _ _ _ es46 ⟨_, _, _, _, _, _, _, _, rfl, z, d_last_, d_table_⟩
    intro s σ H Ho e hI hw
    obtain ⟨last_, table_⟩ := s
    obtain ⟨g_last_, g_table_, y_j_, y_hand_, y_k_, y_known_, y_one_, y_other_, rfl, z, d_last_, d_table_⟩ := hI
    have es47 := es4.trans e
    refine y_ret ?_
    refine y_var rfl ?_
    refine l_fr d_table_ z (fun Ho e z d_table_ => ?_)
    replace d_last_ := OD.mo d_last_ e
    have es48 := es47.trans e
    replace z : Zs amb _ _ := z.go [g_last_] amb []
    exact (run_ret hw) _ _ _ es48 z d_table_
def sp_enough (K : PySem.W.Frag) (cl : Nat → Addr) : Sp := fun vs H Q E => ∃ (amb : Grp) (Ho : Hp) (v0 : V) (x0 : (List (P3 Int Str Int))) (v1 : V) (x1 : (List (P4 Int Int Int Int))), vs = [v0, v1] ∧ Zs amb H Ho ∧ LV K amb Ho v0 x0 ∧ LV K amb Ho v1 x1 ∧ (m_enough x0 x1).run fun r => ∀ v H' Ho', Same Ho Ho' → Zs amb H' Ho' → Z.D K Ho' v r → Q v H'
abbrev s_enough : Stmt := topS 14
theorem sc_enough : FnScope ["web", "some", "places", "table", "note", "called", "j", "i", "hand", "k"] ["web", "some"] (defScope s_enough) := ⟨rfl, rfl, rfl, by decide +kernel, rfl, by decide +kernel, by decide +kernel⟩
theorem ok_enough {f : Addr} {fd : FuncData} (F : Fun K "enough" "enough" s_enough f fd) {f_places_of : Addr} {fd_places_of : FuncData} (c_places_of : Cal P w K mg base CX0 "places_of" ["web"] 2 (sp_places_of K cl) f_places_of fd_places_of) {f_known_by : Addr} {fd_known_by : FuncData} (c_known_by : Cal P w K mg base CX0 "known_by" ["web", "ends"] 2 (sp_known_by K cl) f_known_by fd_known_by) {f_ends_of : Addr} {fd_ends_of : FuncData} (c_ends_of : Cal P w K mg base CX0 "ends_of" ["places", "note"] 1 (sp_ends_of K cl) f_ends_of fd_ends_of) {f_names : Addr} {fd_names : FuncData} (c_names : Cal P w K mg base CX0 "names" ["web"] 1 (sp_names K cl) f_names fd_names) {f_touches_meet : Addr} {fd_touches_meet : FuncData} (c_touches_meet : Cal P w K mg base CX0 "touches_meet" ["one", "other"] 1 (sp_touches_meet K cl) f_touches_meet fd_touches_meet) (m_len : mg "len" = none) (m_range : mg "range" = none) :
    FnOk P w K mg base CX0 3 f fd ["web", "some"] (sp_enough K cl) := by
  refine F.ok sc_enough (fun vs H Q E h => ?_) (fun cdv A outer s H vs Q E hr h => ?_)
  · obtain ⟨amb, Ho, v_web_, web_, v_some_, some_, rfl, _⟩ := h
    rfl
  · obtain ⟨amb, Ho, v_web_, web_, v_some_, some_, rfl, z, d_web_, d_some_, hw⟩ := h
    refine ⟨_, pss_cons (ps_set (i := 2) sc_enough.nd rfl (Or.inr rfl) (pe_call c_places_of.ok (hr.mono (by decide)) (by rfl) c_places_of.g c_places_of.kp c_places_of.b .nil pass0 (pa_cons (pv 0) (pa_nil)))) (pss_cons (ps_set (i := 3) sc_enough.nd rfl (Or.inl rfl) (pe_call c_known_by.ok (hr.mono (by decide)) (by rfl) c_known_by.g c_known_by.kp c_known_by.b .nil pass0 (pa_cons (pv 0) (pa_cons (pe_lc (own := [("note", 4)]) rfl sc_enough.nd (zpi_list (K := K) rfl (pv 1)) (blkOk_by (N := ["web", "some", "places", "table", "note", "called", "j", "i", "hand", "k"]) (sc := defScope s_enough) (by decide +kernel)) (fun _ _ _ _ _ => pg_name (i := 4) sc_enough.nd rfl (Or.inl rfl)) (fun _ _ _ _ _ => pts_nil) (fun _ _ _ _ _ => pe_call c_ends_of.ok (hr.mono (by decide)) (by rfl) c_ends_of.g c_ends_of.kp c_ends_of.b .nil pass0 (pa_cons (pv 2) (pa_cons (pv 4) (pa_nil))))) (pa_nil))))) (pss_cons (ps_set (i := 5) sc_enough.nd rfl (Or.inl rfl) (pe_call c_names.ok (hr.mono (by decide)) (by rfl) c_names.g c_names.kp c_names.b .nil pass0 (pa_cons (pv 0) (pa_nil)))) (pss_cons (ps_for PassesOwn.never rfl (pi_range1 (by rfl) m_range (pa_cons (pe_callB (zlen (K := K) rfl) (by rfl) m_len (by decide +kernel) (pa_cons (pv 0) (pa_nil))) (pa_nil))) (pg_name (i := 6) sc_enough.nd rfl (Or.inl rfl)) (pss_cons (ps_for PassesOwn.never rfl (pi_range1 (by rfl) m_range (pa_cons (pv 6) (pa_nil))) (pg_name (i := 7) sc_enough.nd rfl (Or.inl rfl)) (pss_cons (ps_asg (pe_ix (zix_list (K := K) rfl) (pv 5) (pv 7) (fun _ _ => rfl)) (zpg_tup (K := K) (n := 2) rfl rfl (pgs_cons (pg_name (i := 8) sc_enough.nd rfl (Or.inl rfl)) (pgs_cons (pg_name (i := 9) sc_enough.nd rfl (Or.inl rfl)) (pgs_nil))))) (pss_cons (ps_if (PW.pt (pw_and (pt_val (pe_call c_touches_meet.ok (hr.mono (by decide)) (by rfl) c_touches_meet.g c_touches_meet.kp c_touches_meet.b .nil pass0 (pa_cons (pe_ix (zix_list (K := K) rfl) (pv 0) (pv 7) (fun _ _ => rfl)) (pa_cons (pe_ix (zix_list (K := K) rfl) (pv 0) (pv 6) (fun _ _ => rfl)) (pa_nil))))) (pw_and1 (pt_cmpR (op_ge) (pv 9) (pe_ix (zix_list (K := K) rfl) (pe_ix (zix_list (K := K) rfl) (pv 3) (pv 6) (fun _ _ => rfl)) (pv 8) (fun _ _ => rfl)) (nomark _))))) (pss_cons (ps_ret (pe_bl)) (pss_nil)) (pss_nil)) (pss_nil)))) (pss_nil))) (pss_cons (ps_ret (pe_bl)) (pss_nil))))), ?_⟩
    refine l_asg (fun v => [_, _, some v, _, _, _, _, _, _, _]) (fun _ => rfl) ?_
    refine y_call ?_
    refine y_cons ?_
    refine y_var rfl ?_
    refine y_nil ?_
    refine ⟨amb, _, _, _, rfl, z, (LV.sub d_web_ mgE), ?_⟩
    refine run_mono3 hw (fun t1 hw v g3 H Ho e z d2 => ?_)
    replace d_some_ := LV.mo d_some_ e
    replace d_web_ := LV.mo d_web_ e
    have es4 := (Same.refl _).trans e
    refine d_o hw z d2 (fun places_ v_places_ g_places_ z d_places_ hw => ?_)
    refine l_asg (fun v => [_, _, _, some v, _, _, _, _, _, _]) (fun _ => rfl) ?_
    refine y_call ?_
    refine y_cons ?_
    refine y_var rfl ?_
    refine y_cons ?_
    refine y_lc ?_
    refine k_iList ?_
    refine y_var rfl ?_
    refine k_srcL (r0 := amb) (LV.sub d_some_ mgE) (mgS mgE) z (fun J T => ?_)
    refine y_lcG z (mgS mgE) T hw (fun r5 note_ v_note_ H Ho N N' e z d_note_ hw => ?_) (fun t14 H Ho e hw p11 ws12 z d13 => ?_)
    · replace z : Zs ([r5] ++ (g_places_ ++ amb)) H Ho := z
      replace d_places_ := OD.mo d_places_ e
      replace d_some_ := LV.mo d_some_ e
      replace d_web_ := LV.mo d_web_ e
      have es6 := es4.trans e
      refine y_gname (σ' := [some v_web_, some v_some_, some v_places_, none, some v_note_, none, none, none, none, none]) rfl ?_
      refine ⟨rfl, ?_⟩
      refine y_yes (w_t ?_)
      replace hw := run_itT (run_bret hw) rfl
      refine y_call ?_
      refine y_cons ?_
      refine y_var rfl ?_
      refine y_cons ?_
      refine y_var rfl ?_
      refine y_nil ?_
      refine ⟨([r5] ++ (g_places_ ++ amb)), _, _, _, _, _, rfl, z, ⟨_, d_places_, (mgS mg0)⟩, d_note_, ?_⟩
      refine run_mono3 hw (fun t7 hw v H Ho e z d8 => ?_)
      replace d_note_ := D.mo d_note_ e
      replace d_places_ := OD.mo d_places_ e
      replace d_some_ := LV.mo d_some_ e
      replace d_web_ := LV.mo d_web_ e
      have es10 := (Same.refl _).trans e
      exact (run_ret hw) _ _ _ es10 z d8
    replace d_places_ := OD.mo d_places_ e
    replace d_some_ := LV.mo d_some_ e
    replace d_web_ := LV.mo d_web_ e
    have es15 := es4.trans e
    replace z : Zs ([(p11, HO.lst ws12)] ++ (g_places_ ++ amb)) H Ho := z
    have o16 := OL.mk (p := p11) d13
    refine y_nil ?_
    refine ⟨([(p11, HO.lst ws12)] ++ (g_places_ ++ amb)), _, _, _, _, _, rfl, z, (LV.sub d_web_ (mgS (mgS mgE))), (OL.lv o16 mg0), ?_⟩
    refine run_mono3 hw (fun t17 hw v H Ho e z d18 => ?_)
    replace d_places_ := OD.mo d_places_ e
    replace d_some_ := LV.mo d_some_ e
    replace d_web_ := LV.mo d_web_ e
    have es20 := es15.trans e
    refine l_d (K := K) (Ho := Ho) hw d18 (fun table_ v_table_ d_table_ hw => ?_)
    replace z : Zs (g_places_ ++ amb) _ _ := z.go [[(p11, HO.lst ws12)], g_places_] amb [1]
    refine l_asg (fun v => [_, _, _, _, _, some v, _, _, _, _]) (fun _ => rfl) ?_
    refine y_call ?_
    refine y_cons ?_
    refine y_var rfl ?_
    refine y_nil ?_
    refine ⟨(g_places_ ++ amb), _, _, _, rfl, z, (LV.sub d_web_ (mgS mgE)), ?_⟩
    refine run_mono3 hw (fun t21 hw v H Ho e z d22 => ?_)
    replace d_places_ := OD.mo d_places_ e
    replace d_table_ := D.mo d_table_ e
    replace d_web_ := LV.mo d_web_ e
    have es24 := es20.trans e
    refine l_d (K := K) (Ho := Ho) hw d22 (fun called_ v_called_ d_called_ hw => ?_)
    refine y_for ?_
    refine k_iR1 ?_
    refine y_cons ?_
    refine y_cb ?_
    refine y_cons ?_
    refine y_var rfl ?_
    refine y_nil ?_
    refine y_len (LV.sub d_web_ (mgS mgE)) z ?_
    refine y_nil ?_
    refine k_srcR1 (K := K) (Ho := Ho) hw.1 (fun J T => ?_)
    replace hw := (run_gd hw).2
    refine y_forC T hw (fun (s : Unit) (σ : L2.St) (H Ho : Hp) => ∃ (y_j_ : Option V) (y_i_ : Option V) (y_hand_ : Option V) (y_k_ : Option V), σ = [some v_web_, some v_some_, some v_places_, some v_table_, none, some v_called_, y_j_, y_i_, y_hand_, y_k_] ∧ Zs (g_places_ ++ amb) H Ho) ⟨_, _, _, _, rfl, z⟩ ?_ ?_ ?_ ?_
    · intro s σ H Ho hI
      obtain ⟨y_j_, y_i_, y_hand_, y_k_, rfl, z⟩ := hI
      exact ⟨_, z, mgN⟩
    · intro s σ H Ho H2 Ho2 hI e t
      obtain ⟨y_j_, y_i_, y_hand_, y_k_, rfl, z⟩ := hI
      exact ⟨_, _, _, _, rfl, t _ z⟩
    · intro j_ v_j_ s σ H Ho N B e hI d_j_ hw
      obtain ⟨y_j_, y_i_, y_hand_, y_k_, rfl, z⟩ := hI
      replace d_called_ := D.mo d_called_ e
      replace d_places_ := OD.mo d_places_ e
      replace d_table_ := D.mo d_table_ e
      replace d_web_ := LV.mo d_web_ e
      have es25 := es24.trans e
      obtain rfl := d_int d_j_
      refine y_gname (σ' := [some v_web_, some v_some_, some v_places_, some v_table_, none, some v_called_, some (V.int j_), y_i_, y_hand_, y_k_]) rfl ?_
      refine y_for ?_
      refine k_iR1 ?_
      refine y_cons ?_
      refine y_var rfl ?_
      refine y_nil ?_
      refine k_srcR1 (K := K) (Ho := Ho) hw.1 (fun J T => ?_)
      replace hw := (run_gd hw).2
      refine y_forC T hw (fun (s : Unit) (σ : L2.St) (H Ho : Hp) => ∃ (y_i_ : Option V) (y_hand_ : Option V) (y_k_ : Option V), σ = [some v_web_, some v_some_, some v_places_, some v_table_, none, some v_called_, some (V.int j_), y_i_, y_hand_, y_k_] ∧ Zs (g_places_ ++ amb) H Ho) ⟨_, _, _, rfl, z⟩ ?_ ?_ ?_ ?_
      · intro s σ H Ho hI
        obtain ⟨y_i_, y_hand_, y_k_, rfl, z⟩ := hI
        exact ⟨_, z, mgN⟩
      · intro s σ H Ho H2 Ho2 hI e t
        obtain ⟨y_i_, y_hand_, y_k_, rfl, z⟩ := hI
        exact ⟨_, _, _, rfl, t _ z⟩
      · intro i_ v_i_ s σ H Ho N B e hI d_i_ hw
        obtain ⟨y_i_, y_hand_, y_k_, rfl, z⟩ := hI
        replace d_called_ := D.mo d_called_ e
        replace d_places_ := OD.mo d_places_ e
        replace d_table_ := D.mo d_table_ e
        replace d_web_ := LV.mo d_web_ e
        have es26 := (Same.refl _).trans e
        obtain rfl := d_int d_i_
        refine y_gname (σ' := [some v_web_, some v_some_, some v_places_, some v_table_, none, some v_called_, some (V.int j_), some (V.int i_), y_hand_, y_k_]) rfl ?_
        refine y_asgG ?_
        refine y_op ?_
        refine y_var rfl ?_
        refine y_var rfl ?_
        refine y_ixL (LV.of d_called_) z hw (fun t27 w d28 hw => ?_)
        refine l_u2 hw d28 (fun u29 d30 hw => ?_)
        obtain ⟨hand_, k_⟩ := u29
        refine c_gt2 (fun v_hand_ v_k_ => [_, _, _, _, _, _, _, _, some v_hand_, some v_k_]) (fun _ _ => rfl) d30 z (fun v_hand_ v_k_ d_hand_ d_k_ => ?_)
        obtain rfl := d_int d_hand_
        obtain rfl := d_int d_k_
        refine y_ifS ?_
        refine y_and ?_
        refine y_tB ?_
        refine y_call ?_
        refine y_cons ?_
        refine y_op ?_
        refine y_var rfl ?_
        refine y_var rfl ?_
        refine y_ixL (LV.sub d_web_ (mgS mgE)) z hw (fun t31 w d32 hw => ?_)
        refine y_cons ?_
        refine y_op ?_
        refine y_var rfl ?_
        refine y_var rfl ?_
        refine y_ixL (LV.sub d_web_ (mgS mgE)) z hw (fun t33 w d34 hw => ?_)
        refine y_nil ?_
        refine ⟨(g_places_ ++ amb), _, _, _, _, _, rfl, z, d32, d34, ?_⟩
        refine run_mono3 hw (fun t35 hw v H Ho e z d36 => ?_)
        replace d_called_ := D.mo d_called_ e
        replace d_places_ := OD.mo d_places_ e
        replace d_table_ := D.mo d_table_ e
        replace d_web_ := LV.mo d_web_ e
        have es38 := (Same.refl _).trans e
        first | obtain rfl := d_bool d36 | cases d_bool d36
        refine ⟨_, rfl, ?_⟩
        refine w_andJ hw (fun (s : Bool) (v : Bool) (H2 : Hp) => ∃ (Ho2 : Hp), Same Ho Ho2 ∧ Zs (g_places_ ++ amb) H2 Ho2 ∧ v = s) (fun hb hw => ?_) (fun hb hw => ?_) ?_
        · refine y_test ?_
          refine y_op ?_
          refine y_var rfl ?_
          refine y_op ?_
          refine y_op ?_
          refine y_var rfl ?_
          refine y_var rfl ?_
          refine y_ixL (LV.of d_table_) z hw (fun t39 w d40 hw => ?_)
          refine y_var rfl ?_
          refine y_ixL (LV.of d40) z hw (fun t41 w d42 hw => ?_)
          first | obtain rfl := d_int d42 | cases d_int d42
          refine y_i0 ?_
          refine ⟨_, rfl, ?_⟩
          exact (run_ret hw) _ _ ⟨_, (Same.refl _), z, rfl⟩
        · exact (run_ret hw) _ _ ⟨_, (Same.refl _), z, rfl⟩
        rintro t43 v H ⟨Ho, e, z, rfl⟩ hw
        replace d_called_ := D.mo d_called_ e
        replace d_places_ := OD.mo d_places_ e
        replace d_table_ := D.mo d_table_ e
        replace d_web_ := LV.mo d_web_ e
        have es46 := es38.trans e
        refine y_cases hw (fun hb hw => ?_) (fun hb hw => ?_)
        · refine y_ret ?_
          refine y_c ?_
          replace z : Zs amb _ _ := z.go [g_places_] amb []
          exact (ctl_rt (ctl_rt (run_ret hw))) _ _ _ ((es25.trans es26).trans es46) z (Dq.bl _)
        · refine y_nxS ?_
          exact ctl_nx (run_ret hw) _ _ _ es46 ⟨_, _, _, rfl, z⟩
      intro s σ H Ho e hI hw
      obtain ⟨y_i_, y_hand_, y_k_, rfl, z⟩ := hI
      replace d_called_ := D.mo d_called_ e
      replace d_places_ := OD.mo d_places_ e
      replace d_table_ := D.mo d_table_ e
      replace d_web_ := LV.mo d_web_ e
      have es47 := (Same.refl _).trans e
      exact ctl_nx (run_ret hw) _ _ _ es47 ⟨_, _, _, _, rfl, z⟩
    intro s σ H Ho e hI hw
    obtain ⟨y_j_, y_i_, y_hand_, y_k_, rfl, z⟩ := hI
    replace d_places_ := OD.mo d_places_ e
    have es48 := es24.trans e
    refine y_ret ?_
    refine y_c ?_
    replace z : Zs amb _ _ := z.go [g_places_] amb []
    exact (run_ret hw) _ _ _ es48 z (Dq.bl _)
def sp_law_spring (K : PySem.W.Frag) (cl : Nat → Addr) : Sp := fun vs H Q E => ∃ (amb : Grp) (Ho : Hp) (v0 : V) (x0 : (List Int)), vs = [v0] ∧ Zs amb H Ho ∧ LV K amb Ho v0 x0 ∧ (m_law_spring x0).run fun r => ∀ v g H' Ho', Same Ho Ho' → Zs (g ++ amb) H' Ho' → OH K Ho' v r g → Q v H'
abbrev s_law_spring : Stmt := topS 16
theorem sc_law_spring : FnScope ["script", "figures", "stir", "cell"] ["script"] (defScope s_law_spring) := ⟨rfl, rfl, rfl, by decide +kernel, rfl, by decide +kernel, by decide +kernel⟩
theorem ok_law_spring {f : Addr} {fd : FuncData} (F : Fun K "_law_spring" "_law_spring" s_law_spring f fd) (m_abs : mg "abs" = none) :
    FnOk P w K mg base CX0 1 f fd ["script"] (sp_law_spring K cl) := by
  refine F.ok sc_law_spring (fun vs H Q E h => ?_) (fun cdv A outer s H vs Q E hr h => ?_)
  · obtain ⟨amb, Ho, v_script_, script_, rfl, _⟩ := h
    rfl
  · obtain ⟨amb, Ho, v_script_, script_, rfl, z, d_script_, hw⟩ := h
    refine ⟨_, pss_cons (ps_set (i := 1) sc_law_spring.nd rfl (Or.inl rfl) (pe_int)) (pss_cons (ps_set (i := 2) sc_law_spring.nd rfl (Or.inl rfl) (pe_int)) (pss_cons (ps_for PassesOwn.never rfl (zpi_list (K := K) rfl (pe_slice (zsl_list (K := K) rfl) (pv 0) po_none (po_some (pe_int)))) (pg_name (i := 3) sc_law_spring.nd rfl (Or.inl rfl)) (pss_cons (ps_if (pt_cmpR (op_ge) (pe_callB call_abs (by rfl) m_abs (by decide +kernel) (pa_cons (pv 3) (pa_nil))) (pe_op op_pow (pe_int) (pe_int)) (nomark _)) (pss_cons (ps_set (i := 1) sc_law_spring.nd rfl (Or.inl rfl) (pe_op op_add (pe_op op_mulW (pv 1) (pe_op op_pow (pe_int) (pe_int))) (pe_op op_mod (pe_callB call_abs (by rfl) m_abs (by decide +kernel) (pa_cons (pv 3) (pa_nil))) (pe_op op_pow (pe_int) (pe_int))))) (pss_nil)) (pss_nil)) (pss_cons (ps_set (i := 2) sc_law_spring.nd rfl (Or.inl rfl) (pe_op op_mod (pe_op op_add (pe_op op_add (pe_op op_mulW (pv 2) (pe_int)) (pe_op op_mod (pv 3) (pe_int))) (pe_int)) (pe_int))) (pss_nil)))) (pss_cons (ps_ret (pe_lst (pa_cons (pv 1) (pa_cons (pv 2) (pa_cons (pe_int) (pa_nil)))))) (pss_nil)))), ?_⟩
    refine l_asg (fun v => [_, some v, _, _]) (fun _ => rfl) ?_
    refine y_c ?_
    refine l_i hw (fun figures_ hw => ?_)
    refine l_asg (fun v => [_, _, some v, _]) (fun _ => rfl) ?_
    refine y_c ?_
    refine l_i hw (fun stir_ hw => ?_)
    refine y_for ?_
    refine k_iList ?_
    refine y_sl ?_
    refine y_var rfl ?_
    refine y_noPart ?_
    refine y_part ?_
    refine y_c ?_
    refine ⟨_, rfl, ?_⟩
    refine y_slL (LV.sub d_script_ mgE) z (fun H p1 ws2 z d3 => ?_)
    replace z : Zs ([(p1, HO.lst ws2)] ++ amb) H Ho := z
    have o4 := OL.mk (p := p1) d3
    refine k_srcL (r0 := [(p1, HO.lst ws2)]) (OL.lv o4 mgE) mg0 z (fun J T => ?_)
    refine y_forL T hw (fun (s : Int × Int) (σ : L2.St) (H Ho : Hp) => ∃ (y_cell_ : Option V), σ = [some v_script_, some (V.int s.1), some (V.int s.2), y_cell_] ∧ Zs ([(p1, HO.lst ws2)] ++ amb) H Ho) ⟨_, rfl, z⟩ ?_ ?_ ?_ ?_
    · intro s σ H Ho hI
      obtain ⟨figures_, stir_⟩ := s
      obtain ⟨y_cell_, rfl, z⟩ := hI
      exact ⟨_, z, mg0⟩
    · intro s σ H Ho H2 Ho2 hI e t
      obtain ⟨figures_, stir_⟩ := s
      obtain ⟨y_cell_, rfl, z⟩ := hI
      exact ⟨_, rfl, t _ z⟩
    · intro cell_ v_cell_ s σ H Ho N e hI d_cell_ hw
      obtain ⟨figures_, stir_⟩ := s
      obtain ⟨y_cell_, rfl, z⟩ := hI
      have es5 := (Same.refl _).trans e
      obtain rfl := d_int d_cell_
      refine y_gname (σ' := [some v_script_, some (V.int figures_), some (V.int stir_), some (V.int cell_)]) rfl ?_
      refine y_ifS ?_
      refine y_test ?_
      refine y_op ?_
      refine y_cb ?_
      refine y_cons ?_
      refine y_var rfl ?_
      refine y_nil ?_
      refine ⟨_, rfl, ?_⟩
      refine y_op ?_
      refine y_c ?_
      refine y_c ?_
      refine y_ig hw.1 ?_
      replace hw := (run_gd hw).2
      refine y_i0 ?_
      refine ⟨_, rfl, ?_⟩
      refine w_ifJ hw (fun (s : Int) (σ : L2.St) (H : Hp) => ∃ Ho2, Same Ho Ho2 ∧ (fun (s : Int) (σ : L2.St) (H Ho : Hp) => σ = [some v_script_, some (V.int s), some (V.int stir_), some (V.int cell_)] ∧ Zs ([(p1, HO.lst ws2)] ++ amb) H Ho) s σ H Ho2) (fun hb hw => ?_) (fun hb hw => ?_) ?_
      · refine l_asg (fun v => [_, some v, _, _]) (fun _ => rfl) ?_
        refine y_op ?_
        refine y_op ?_
        refine y_var rfl ?_
        refine y_op ?_
        refine y_c ?_
        refine y_c ?_
        refine y_ig hw.1 ?_
        replace hw := (run_gd hw).2
        refine y_ig hw.1 ?_
        replace hw := (run_gd hw).2
        refine y_op ?_
        refine y_cb ?_
        refine y_cons ?_
        refine y_var rfl ?_
        refine y_nil ?_
        refine ⟨_, rfl, ?_⟩
        refine y_op ?_
        refine y_c ?_
        refine y_c ?_
        refine y_ig hw.1 ?_
        replace hw := (run_gd hw).2
        refine y_ig hw.1 ?_
        replace hw := (run_gd hw).2
        refine y_i0 ?_
        refine l_i hw (fun figures_ hw => ?_)
        exact (run_ret hw) _ _ ⟨_, (Same.refl _), ⟨rfl, z⟩⟩
      · refine y_nxS ?_
        exact (run_ret hw) _ _ ⟨_, (Same.refl _), ⟨rfl, z⟩⟩
      rintro figures_ σ H ⟨Ho, e, rfl, z⟩ hw
      have es6 := (Same.refl _).trans e
      refine l_asg (fun v => [_, _, some v, _]) (fun _ => rfl) ?_
      refine y_op ?_
      refine y_op ?_
      refine y_op ?_
      refine y_op ?_
      refine y_var rfl ?_
      refine y_c ?_
      refine y_ig hw.1 ?_
      replace hw := (run_gd hw).2
      refine y_op ?_
      refine y_var rfl ?_
      refine y_c ?_
      refine y_ig (by decide) ?_
      refine y_i0 ?_
      refine y_c ?_
      refine y_i0 ?_
      refine y_c ?_
      refine y_ig (by decide) ?_
      refine l_i hw (fun stir_ hw => ?_)
      exact (run_ret hw) _ _ _ es6 ⟨_, rfl, z⟩
    intro s σ H Ho e hI hw
    obtain ⟨figures_, stir_⟩ := s
    obtain ⟨y_cell_, rfl, z⟩ := hI
    have es7 := (Same.refl _).trans e
    replace z : Zs amb _ _ := z.go [[(p1, HO.lst ws2)]] amb []
    refine y_ret ?_
    refine k_lst ?_
    refine y_cons ?_
    refine y_var rfl ?_
    refine y_cons ?_
    refine y_var rfl ?_
    refine y_cons ?_
    refine y_c ?_
    refine y_nil ?_
    refine k_hlst (K := K) (x := (⟨figures_, stir_, (0 : Int)⟩ : (H3 Int Int Int))) z (DqAll.cons (Dq.int _) (DqAll.cons (Dq.int _) (DqAll.cons (Dq.int _) DqAll.nil))) (by show 3 ≤ sizeLine; decide) (fun H p10 g8 z o9 => ?_)
    exact (run_ret hw) _ _ _ _ es7 z o9
def sp_law_draw (K : PySem.W.Frag) (cl : Nat → Addr) : Sp := fun vs H Q E => ∃ (amb : Grp) (Ho : Hp) (v0 : V) (x0 : (H3 Int Int Int)) (g0 : Grp) (v1 : V) (x1 : Int), vs = [v0, v1] ∧ Zs (g0 ++ amb) H Ho ∧ OH K Ho v0 x0 g0 ∧ Z.D K Ho v1 x1 ∧ (m_law_draw x0 x1).run fun r => ∀ v h0 H' Ho', Same Ho Ho' → Zs (h0 ++ amb) H' Ho' → Z.D K Ho' v r.1 → OH K Ho' v0 r.2 h0 → Q v H'
abbrev s_law_draw : Stmt := topS 17
theorem sc_law_draw : FnScope ["spring", "many", "found", "stir"] ["spring", "many"] (defScope s_law_draw) := ⟨rfl, rfl, rfl, by decide +kernel, rfl, by decide +kernel, by decide +kernel⟩
theorem ok_law_draw {f : Addr} {fd : FuncData} (F : Fun K "_law_draw" "_law_draw" s_law_draw f fd) :
    FnOk P w K mg base CX0 1 f fd ["spring", "many"] (sp_law_draw K cl) := by
  refine F.ok sc_law_draw (fun vs H Q E h => ?_) (fun cdv A outer s H vs Q E hr h => ?_)
  · obtain ⟨amb, Ho, v_spring_, spring_, g_spring_, v_many_, many_, rfl, _⟩ := h
    rfl
  · obtain ⟨amb, Ho, v_spring_, spring_, g_spring_, v_many_, many_, rfl, z, d_spring_, d_many_, hw⟩ := h
    refine ⟨_, pss_cons (ps_if (pt_cmpR (op_gt) (pe_ix (zix_list (K := K) rfl) (pv 0) (pe_int) (fun _ _ => rfl)) (pe_int) (nomark _)) (pss_cons (ps_set (i := 2) sc_law_draw.nd rfl (Or.inl rfl) (pe_op op_mod (pe_ix (zix_list (K := K) rfl) (pv 0) (pe_int) (fun _ _ => rfl)) (pv 1))) (pss_cons (ps_asg (pe_op op_fdivW (pe_ix (zix_list (K := K) rfl) (pv 0) (pe_int) (fun _ _ => rfl)) (pv 1)) (pg_sub (pv 0) (pe_int) set_list)) (pss_cons (ps_ret (pv 2)) (pss_nil)))) (pss_nil)) (pss_cons (ps_asg (pe_op op_add (pe_ix (zix_list (K := K) rfl) (pv 0) (pe_int) (fun _ _ => rfl)) (pe_int)) (pg_sub (pv 0) (pe_int) set_list)) (pss_cons (ps_set (i := 3) sc_law_draw.nd rfl (Or.inl rfl) (pe_op op_mod (pe_op op_mulW (pe_ix (zix_list (K := K) rfl) (pv 0) (pe_int) (fun _ _ => rfl)) (pe_ix (zix_list (K := K) rfl) (pv 0) (pe_int) (fun _ _ => rfl))) (pe_int))) (pss_cons (ps_asg (pe_op op_mod (pe_op op_add (pe_op op_add (pv 3) (pe_op op_mulW (pe_op op_mulW (pe_int) (pe_ix (zix_list (K := K) rfl) (pv 0) (pe_int) (fun _ _ => rfl))) (pe_ix (zix_list (K := K) rfl) (pv 0) (pe_int) (fun _ _ => rfl)))) (pe_int)) (pe_int)) (pg_sub (pv 0) (pe_int) set_list)) (pss_cons (ps_ret (pe_op op_mod (pe_op op_fdivW (pe_ix (zix_list (K := K) rfl) (pv 0) (pe_int) (fun _ _ => rfl)) (pe_int)) (pv 1))) (pss_nil))))), ?_⟩
    obtain rfl := d_int d_many_
    refine y_ifS ?_
    refine y_test ?_
    refine y_op ?_
    refine y_op ?_
    refine y_var rfl ?_
    refine y_c ?_
    refine h_ix (y := spring_.a) d_spring_ z rfl (fun w d1 => ?_)
    first | obtain rfl := d_int d1 | cases d_int d1
    refine y_c ?_
    refine y_i0 ?_
    refine ⟨_, rfl, ?_⟩
    refine y_cases hw (fun hb hw => ?_) (fun hb hw => ?_)
    · refine l_asg (fun v => [_, _, some v, _]) (fun _ => rfl) ?_
      refine y_op ?_
      refine y_op ?_
      refine y_var rfl ?_
      refine y_c ?_
      refine h_ix (y := spring_.a) d_spring_ z rfl (fun w d2 => ?_)
      first | obtain rfl := d_int d2 | cases d_int d2
      refine y_var rfl ?_
      refine y_ig hw.1 ?_
      replace hw := (run_gd hw).2
      refine l_i hw (fun found_ hw => ?_)
      refine y_asgG ?_
      refine y_op ?_
      refine y_op ?_
      refine y_var rfl ?_
      refine y_c ?_
      refine h_ix (y := spring_.a) d_spring_ z rfl (fun w d3 => ?_)
      first | obtain rfl := d_int d3 | cases d_int d3
      refine y_var rfl ?_
      refine y_ig hw.1 ?_
      replace hw := (run_gd hw).2
      refine y_gsub ?_
      refine y_var rfl ?_
      refine y_c ?_
      refine h_st (y := ({ spring_ with a := (spring_.a / many_) } : (H3 Int Int Int))) z d_spring_ (Dq.int _) rfl rfl (fun g_spring_ H z d_spring_ => ?_)
      refine h_nm hw d_spring_ (fun spring_ d_spring_ hw => ?_)
      refine y_ret ?_
      refine y_var rfl ?_
      exact (run_ret hw) _ _ _ _ (Same.refl _) z (Dq.int _) d_spring_
    · refine y_nxS ?_
      refine y_asgG ?_
      refine y_op ?_
      refine y_op ?_
      refine y_var rfl ?_
      refine y_c ?_
      refine h_ix (y := spring_.c) d_spring_ z rfl (fun w d4 => ?_)
      first | obtain rfl := d_int d4 | cases d_int d4
      refine y_c ?_
      refine y_i0 ?_
      refine y_gsub ?_
      refine y_var rfl ?_
      refine y_c ?_
      refine h_st (y := ({ spring_ with c := (spring_.c + (1 : Int)) } : (H3 Int Int Int))) z d_spring_ (Dq.int _) rfl rfl (fun g_spring_ H z d_spring_ => ?_)
      refine h_nm hw d_spring_ (fun spring_ d_spring_ hw => ?_)
      refine l_asg (fun v => [_, _, _, some v]) (fun _ => rfl) ?_
      refine y_op ?_
      refine y_op ?_
      refine y_op ?_
      refine y_var rfl ?_
      refine y_c ?_
      refine h_ix (y := spring_.b) d_spring_ z rfl (fun w d5 => ?_)
      first | obtain rfl := d_int d5 | cases d_int d5
      refine y_op ?_
      refine y_var rfl ?_
      refine y_c ?_
      refine h_ix (y := spring_.b) d_spring_ z rfl (fun w d6 => ?_)
      first | obtain rfl := d_int d6 | cases d_int d6
      refine y_ig hw.1 ?_
      replace hw := (run_gd hw).2
      refine y_c ?_
      refine y_ig (by decide) ?_
      refine l_i hw (fun stir_ hw => ?_)
      refine y_asgG ?_
      refine y_op ?_
      refine y_op ?_
      refine y_op ?_
      refine y_var rfl ?_
      refine y_op ?_
      refine y_op ?_
      refine y_c ?_
      refine y_op ?_
      refine y_var rfl ?_
      refine y_c ?_
      refine h_ix (y := spring_.c) d_spring_ z rfl (fun w d7 => ?_)
      first | obtain rfl := d_int d7 | cases d_int d7
      refine y_ig hw.1 ?_
      replace hw := (run_gd hw).2
      refine y_op ?_
      refine y_var rfl ?_
      refine y_c ?_
      refine h_ix (y := spring_.b) d_spring_ z rfl (fun w d8 => ?_)
      first | obtain rfl := d_int d8 | cases d_int d8
      refine y_ig hw.1 ?_
      replace hw := (run_gd hw).2
      refine y_i0 ?_
      refine y_c ?_
      refine y_i0 ?_
      refine y_c ?_
      refine y_ig (by decide) ?_
      refine y_gsub ?_
      refine y_var rfl ?_
      refine y_c ?_
      refine h_st (y := ({ spring_ with b := (((stir_ + (((7919 : Int) * spring_.c) * spring_.b)) + (104729 : Int)) % (2305843009213693951 : Int)) } : (H3 Int Int Int))) z d_spring_ (Dq.int _) rfl rfl (fun g_spring_ H z d_spring_ => ?_)
      refine h_nm hw d_spring_ (fun spring_ d_spring_ hw => ?_)
      refine y_ret ?_
      refine y_op ?_
      refine y_op ?_
      refine y_op ?_
      refine y_var rfl ?_
      refine y_c ?_
      refine h_ix (y := spring_.b) d_spring_ z rfl (fun w d9 => ?_)
      first | obtain rfl := d_int d9 | cases d_int d9
      refine y_c ?_
      refine y_ig hw.1 ?_
      replace hw := (run_gd hw).2
      refine y_var rfl ?_
      refine y_ig hw.1 ?_
      replace hw := (run_gd hw).2
      exact (run_ret hw) _ _ _ _ (Same.refl _) z (Dq.int _) d_spring_
def sp_law_web (K : PySem.W.Frag) (cl : Nat → Addr) : Sp := fun vs H Q E => ∃ (amb : Grp) (Ho : Hp) (v0 : V) (x0 : (H3 Int Int Int)) (g0 : Grp) (v1 : V) (x1 : Int), vs = [v0, v1] ∧ Zs (g0 ++ amb) H Ho ∧ OH K Ho v0 x0 g0 ∧ Z.D K Ho v1 x1 ∧ (m_law_web x0 x1).run fun r => ∀ v h0 H' Ho', Same Ho Ho' → Zs (h0 ++ amb) H' Ho' → Z.D K Ho' v r.1 → OH K Ho' v0 r.2 h0 → Q v H'
abbrev s_law_web : Stmt := topS 18
theorem sc_law_web : FnScope ["spring", "most", "shape", "size", "hands", "first", "room", "base", "kinds", "web", "at", "hand", "kind"] ["spring", "most"] (defScope s_law_web) := ⟨rfl, rfl, rfl, by decide +kernel, rfl, by decide +kernel, by decide +kernel⟩
theorem ok_law_web {f : Addr} {fd : FuncData} (F : Fun K "_law_web" "_law_web" s_law_web f fd) {f_law_draw : Addr} {fd_law_draw : FuncData} (c_law_draw : Cal P w K mg base CX0 "_law_draw" ["spring", "many"] 1 (sp_law_draw K cl) f_law_draw fd_law_draw) (m_int : mg "int" = none) (m_range : mg "range" = none) (m_len : mg "len" = none) :
    FnOk P w K mg base CX0 2 f fd ["spring", "most"] (sp_law_web K cl) := by
  refine F.ok sc_law_web (fun vs H Q E h => ?_) (fun cdv A outer s H vs Q E hr h => ?_)
  · obtain ⟨amb, Ho, v_spring_, spring_, g_spring_, v_most_, most_, rfl, _⟩ := h
    rfl
  · obtain ⟨amb, Ho, v_spring_, spring_, g_spring_, v_most_, most_, rfl, z, d_spring_, d_most_, hw⟩ := h
    refine ⟨_, pss_cons (ps_set (i := 2) sc_law_web.nd rfl (Or.inl rfl) (pe_call c_law_draw.ok (hr.mono (by decide)) (by rfl) c_law_draw.g c_law_draw.kp c_law_draw.b .nil pass0 (pa_cons (pv 0) (pa_cons (pe_int) (pa_nil))))) (pss_cons (ps_set (i := 3) sc_law_web.nd rfl (Or.inl rfl) (pe_call c_law_draw.ok (hr.mono (by decide)) (by rfl) c_law_draw.g c_law_draw.kp c_law_draw.b .nil pass0 (pa_cons (pv 0) (pa_cons (pe_ix (zix_list (K := K) rfl) (pe_lst (pa_cons (pe_int) (pa_cons (pe_int) (pa_cons (pe_op op_add (pv 1) (pe_int)) (pa_nil))))) (pe_op op_add (pe_callTy call_int1 (by rfl) m_int (by decide +kernel) (pa_cons (pe_cmpR (op_eq) (pe_op op_mod (pv 2) (pe_int)) (pe_int) (nomark _)) (pa_nil))) (pe_callTy call_int1 (by rfl) m_int (by decide +kernel) (pa_cons (pe_cmpR (op_eq) (pv 2) (pe_int) (nomark _)) (pa_nil)))) (fun _ _ => rfl)) (pa_nil))))) (pss_cons (ps_set (i := 4) sc_law_web.nd rfl (Or.inl rfl) (pe_op op_add (pe_int) (pe_call c_law_draw.ok (hr.mono (by decide)) (by rfl) c_law_draw.g c_law_draw.kp c_law_draw.b .nil pass0 (pa_cons (pv 0) (pa_cons (pe_int) (pa_nil)))))) (pss_cons (ps_set (i := 5) sc_law_web.nd rfl (Or.inl rfl) (pe_call c_law_draw.ok (hr.mono (by decide)) (by rfl) c_law_draw.g c_law_draw.kp c_law_draw.b .nil pass0 (pa_cons (pv 0) (pa_cons (pe_int) (pa_nil))))) (pss_cons (ps_set (i := 6) sc_law_web.nd rfl (Or.inl rfl) (pe_ix (zix_list (K := K) rfl) (pe_lst (pa_cons (pe_int) (pa_cons (pe_int) (pa_cons (pe_int) (pa_cons (pe_int) (pa_cons (pe_int) (pa_nil))))))) (pe_call c_law_draw.ok (hr.mono (by decide)) (by rfl) c_law_draw.g c_law_draw.kp c_law_draw.b .nil pass0 (pa_cons (pv 0) (pa_cons (pe_int) (pa_nil)))) (fun _ _ => rfl))) (pss_cons (ps_set (i := 7) sc_law_web.nd rfl (Or.inl rfl) (pe_call c_law_draw.ok (hr.mono (by decide)) (by rfl) c_law_draw.g c_law_draw.kp c_law_draw.b .nil pass0 (pa_cons (pv 0) (pa_cons (pe_int) (pa_nil))))) (pss_cons (ps_set (i := 8) sc_law_web.nd rfl (Or.inl rfl) (pe_lst (pa_cons (pe_str) (pa_cons (pe_str) (pa_cons (pe_str) (pa_nil)))))) (pss_cons (ps_if (pt_cmpR (op_eq) (pe_call c_law_draw.ok (hr.mono (by decide)) (by rfl) c_law_draw.g c_law_draw.kp c_law_draw.b .nil pass0 (pa_cons (pv 0) (pa_cons (pe_int) (pa_nil)))) (pe_int) (nomark _)) (pss_cons (ps_set (i := 8) sc_law_web.nd rfl (Or.inl rfl) (pe_lst (pa_cons (pe_str) (pa_cons (pe_str) (pa_cons (pe_str) (pa_cons (pe_str) (pa_cons (pe_str) (pa_cons (pe_str) (pa_nil))))))))) (pss_nil)) (pss_nil)) (pss_cons (ps_set (i := 9) sc_law_web.nd rfl (Or.inl rfl) (pe_lst (pa_nil))) (pss_cons (ps_for PassesOwn.never rfl (pi_range1 (by rfl) m_range (pa_cons (pv 3) (pa_nil))) (pg_name (i := 10) sc_law_web.nd rfl (Or.inl rfl)) (pss_cons (ps_set (i := 11) sc_law_web.nd rfl (Or.inl rfl) (pe_op op_mod (pe_op op_add (pv 5) (pe_call c_law_draw.ok (hr.mono (by decide)) (by rfl) c_law_draw.g c_law_draw.kp c_law_draw.b .nil pass0 (pa_cons (pv 0) (pa_cons (pv 4) (pa_nil))))) (pe_int))) (pss_cons (ps_set (i := 12) sc_law_web.nd rfl (Or.inl rfl) (pe_ix (zix_list (K := K) rfl) (pv 8) (pe_call c_law_draw.ok (hr.mono (by decide)) (by rfl) c_law_draw.g c_law_draw.kp c_law_draw.b .nil pass0 (pa_cons (pv 0) (pa_cons (pe_callB (zlen (K := K) rfl) (by rfl) m_len (by decide +kernel) (pa_cons (pv 8) (pa_nil))) (pa_nil)))) (fun _ _ => rfl))) (pss_cons (ps_expr (pe_bm PySem.F.plainAttrs_list PySem.F.slot_list_append PySem.F.type_list_append mt_append (pv 9) (pa_cons (pe_tup (pa_cons (pv 11) (pa_cons (pv 12) (pa_cons (pe_op op_mod (pe_op op_add (pv 7) (pe_call c_law_draw.ok (hr.mono (by decide)) (by rfl) c_law_draw.g c_law_draw.kp c_law_draw.b .nil pass0 (pa_cons (pv 0) (pa_cons (pv 6) (pa_nil))))) (pe_int)) (pa_nil))))) (pa_nil)))) (pss_nil))))) (pss_cons (ps_ret (pv 9)) (pss_nil))))))))))), ?_⟩
    obtain rfl := d_int d_most_
    refine l_asg (fun v => [_, _, some v, _, _, _, _, _, _, _, _, _, _]) (fun _ => rfl) ?_
    refine y_call ?_
    refine y_cons ?_
    refine y_var rfl ?_
    refine y_cons ?_
    refine y_c ?_
    refine y_nil ?_
    refine ⟨amb, _, _, _, _, _, _, rfl, z, d_spring_, (Dq.int _), ?_⟩
    refine run_mono2 hw (fun t1 spring_ hw v g_spring_ H Ho e z d2 d_spring_ => ?_)
    replace d2 : Z.D K Ho v t1 := d2
    replace d_spring_ : OH K Ho v_spring_ spring_ g_spring_ := d_spring_
    have es4 := (Same.refl _).trans e
    first | obtain rfl := d_int d2 | cases d_int d2
    refine l_i hw (fun shape_ hw => ?_)
    refine l_asg (fun v => [_, _, _, some v, _, _, _, _, _, _, _, _, _]) (fun _ => rfl) ?_
    refine y_call ?_
    refine y_cons ?_
    refine y_var rfl ?_
    refine y_cons ?_
    refine y_op ?_
    refine k_lst ?_
    refine y_cons ?_
    refine y_c ?_
    refine y_cons ?_
    refine y_c ?_
    refine y_cons ?_
    refine y_op ?_
    refine y_var rfl ?_
    refine y_c ?_
    refine y_i0 ?_
    refine y_nil ?_
    refine k_lstk (K := K) (xs := ([(31 : Int), (101 : Int), (most_ + (1 : Int))] : (List Int))) z (DqAll.cons (Dq.int _) (DqAll.cons (Dq.int _) (DqAll.cons (Dq.int _) DqAll.nil))) (by show 3 ≤ sizeLine; decide) (fun H p5 ws6 z d7 => ?_)
    replace z : Zs ([(p5, HO.lst ws6)] ++ (g_spring_ ++ amb)) H Ho := z
    have o8 := OL.mk (p := p5) d7
    refine y_op ?_
    refine y_cb ?_
    refine y_cons ?_
    refine y_op ?_
    refine y_op ?_
    refine y_var rfl ?_
    refine y_c ?_
    refine y_ig (by decide) ?_
    refine y_c ?_
    refine y_eqi ?_
    refine y_nil ?_
    refine Or.inr ⟨_, rfl, ?_⟩
    refine y_cb ?_
    refine y_cons ?_
    refine y_op ?_
    refine y_var rfl ?_
    refine y_c ?_
    refine y_eqi ?_
    refine y_nil ?_
    refine Or.inr ⟨_, rfl, ?_⟩
    refine y_i0 ?_
    refine y_ixL (OL.lv o8 mg0) z hw (fun t9 w d10 hw => ?_)
    first | obtain rfl := d_int d10 | cases d_int d10
    refine y_nil ?_
    replace z : Zs (g_spring_ ++ ([(p5, HO.lst ws6)] ++ amb)) _ _ := z.go [[(p5, HO.lst ws6)], g_spring_] amb [1, 0]
    refine ⟨([(p5, HO.lst ws6)] ++ amb), _, _, _, _, _, _, rfl, z, d_spring_, (Dq.int _), ?_⟩
    refine run_mono2 hw (fun t11 spring_ hw v g_spring_ H Ho e z d12 d_spring_ => ?_)
    replace d12 : Z.D K Ho v t11 := d12
    replace d_spring_ : OH K Ho v_spring_ spring_ g_spring_ := d_spring_
    have es14 := es4.trans e
    first | obtain rfl := d_int d12 | cases d_int d12
    refine l_i hw (fun size_ hw => ?_)
    replace z : Zs (g_spring_ ++ amb) _ _ := z.go [g_spring_, [(p5, HO.lst ws6)]] amb [0]
    refine l_asg (fun v => [_, _, _, _, some v, _, _, _, _, _, _, _, _]) (fun _ => rfl) ?_
    refine y_op ?_
    refine y_c ?_
    refine y_call ?_
    refine y_cons ?_
    refine y_var rfl ?_
    refine y_cons ?_
    refine y_c ?_
    refine y_nil ?_
    refine ⟨amb, _, _, _, _, _, _, rfl, z, d_spring_, (Dq.int _), ?_⟩
    refine run_mono2 hw (fun t15 spring_ hw v g_spring_ H Ho e z d16 d_spring_ => ?_)
    replace d16 : Z.D K Ho v t15 := d16
    replace d_spring_ : OH K Ho v_spring_ spring_ g_spring_ := d_spring_
    have es18 := es14.trans e
    first | obtain rfl := d_int d16 | cases d_int d16
    refine y_i0 ?_
    refine l_i hw (fun hands_ hw => ?_)
    refine l_asg (fun v => [_, _, _, _, _, some v, _, _, _, _, _, _, _]) (fun _ => rfl) ?_
    refine y_call ?_
    refine y_cons ?_
    refine y_var rfl ?_
    refine y_cons ?_
    refine y_c ?_
    refine y_nil ?_
    refine ⟨amb, _, _, _, _, _, _, rfl, z, d_spring_, (Dq.int _), ?_⟩
    refine run_mono2 hw (fun t19 spring_ hw v g_spring_ H Ho e z d20 d_spring_ => ?_)
    replace d20 : Z.D K Ho v t19 := d20
    replace d_spring_ : OH K Ho v_spring_ spring_ g_spring_ := d_spring_
    have es22 := es18.trans e
    first | obtain rfl := d_int d20 | cases d_int d20
    refine l_i hw (fun first_ hw => ?_)
    refine l_asg (fun v => [_, _, _, _, _, _, some v, _, _, _, _, _, _]) (fun _ => rfl) ?_
    refine y_op ?_
    refine k_lst ?_
    refine y_cons ?_
    refine y_c ?_
    refine y_cons ?_
    refine y_c ?_
    refine y_cons ?_
    refine y_c ?_
    refine y_cons ?_
    refine y_c ?_
    refine y_cons ?_
    refine y_c ?_
    refine y_nil ?_
    refine k_lstk (K := K) (xs := ([(1 : Int), (2 : Int), (3 : Int), (5 : Int), (20 : Int)] : (List Int))) z (DqAll.cons (Dq.int _) (DqAll.cons (Dq.int _) (DqAll.cons (Dq.int _) (DqAll.cons (Dq.int _) (DqAll.cons (Dq.int _) DqAll.nil))))) (by show 5 ≤ sizeLine; decide) (fun H p23 ws24 z d25 => ?_)
    replace z : Zs ([(p23, HO.lst ws24)] ++ (g_spring_ ++ amb)) H Ho := z
    have o26 := OL.mk (p := p23) d25
    refine y_call ?_
    refine y_cons ?_
    refine y_var rfl ?_
    refine y_cons ?_
    refine y_c ?_
    refine y_nil ?_
    replace z : Zs (g_spring_ ++ ([(p23, HO.lst ws24)] ++ amb)) _ _ := z.go [[(p23, HO.lst ws24)], g_spring_] amb [1, 0]
    refine ⟨([(p23, HO.lst ws24)] ++ amb), _, _, _, _, _, _, rfl, z, d_spring_, (Dq.int _), ?_⟩
    refine run_mono2 hw (fun t27 spring_ hw v g_spring_ H Ho e z d28 d_spring_ => ?_)
    replace d28 : Z.D K Ho v t27 := d28
    replace d_spring_ : OH K Ho v_spring_ spring_ g_spring_ := d_spring_
    replace o26 := OL.mo o26 e
    have es30 := es22.trans e
    first | obtain rfl := d_int d28 | cases d_int d28
    refine y_ixL (OL.lv o26 (mgS mg0)) z hw (fun t31 w d32 hw => ?_)
    first | obtain rfl := d_int d32 | cases d_int d32
    refine l_i hw (fun room_ hw => ?_)
    replace z : Zs (g_spring_ ++ amb) _ _ := z.go [g_spring_, [(p23, HO.lst ws24)]] amb [0]
    refine l_asg (fun v => [_, _, _, _, _, _, _, some v, _, _, _, _, _]) (fun _ => rfl) ?_
    refine y_call ?_
    refine y_cons ?_
    refine y_var rfl ?_
    refine y_cons ?_
    refine y_c ?_
    refine y_nil ?_
    refine ⟨amb, _, _, _, _, _, _, rfl, z, d_spring_, (Dq.int _), ?_⟩
    refine run_mono2 hw (fun t33 spring_ hw v g_spring_ H Ho e z d34 d_spring_ => ?_)
    replace d34 : Z.D K Ho v t33 := d34
    replace d_spring_ : OH K Ho v_spring_ spring_ g_spring_ := d_spring_
    have es36 := es30.trans e
    first | obtain rfl := d_int d34 | cases d_int d34
    refine l_i hw (fun base_ hw => ?_)
    refine l_asg (fun v => [_, _, _, _, _, _, _, _, some v, _, _, _, _]) (fun _ => rfl) ?_
    refine k_lst ?_
    refine y_cons ?_
    refine y_c ?_
    refine y_cons ?_
    refine y_c ?_
    refine y_cons ?_
    refine y_c ?_
    refine y_nil ?_
    refine k_lstk (K := K) (xs := ([("load" : Str), ("store" : Str), ("swap" : Str)] : (List Str))) z (DqAll.cons (Dq.str _) (DqAll.cons (Dq.str _) (DqAll.cons (Dq.str _) DqAll.nil))) (by show 3 ≤ sizeLine; decide) (fun H p37 ws38 z d39 => ?_)
    replace z : Zs ([(p37, HO.lst ws38)] ++ (g_spring_ ++ amb)) H Ho := z
    have o40 := OL.mk (p := p37) d39
    refine l_fr o40 z (fun Ho e z d41 => ?_)
    replace d_spring_ := OH.mo d_spring_ e
    have es42 := es36.trans e
    refine l_d (K := K) (Ho := Ho) hw d41 (fun kinds_ v_kinds_ d_kinds_ hw => ?_)
    refine y_ifS ?_
    refine y_test ?_
    refine y_op ?_
    refine y_call ?_
    refine y_cons ?_
    refine y_var rfl ?_
    refine y_cons ?_
    refine y_c ?_
    refine y_nil ?_
    refine ⟨amb, _, _, _, _, _, _, rfl, z, d_spring_, (Dq.int _), ?_⟩
    refine run_mono2 hw (fun t43 spring_ hw v g_spring_ H Ho e z d44 d_spring_ => ?_)
    replace d44 : Z.D K Ho v t43 := d44
    replace d_spring_ : OH K Ho v_spring_ spring_ g_spring_ := d_spring_
    replace d_kinds_ := D.mo d_kinds_ e
    have es46 := es42.trans e
    first | obtain rfl := d_int d44 | cases d_int d44
    refine y_c ?_
    refine y_eqi ?_
    refine ⟨_, rfl, ?_⟩
    refine w_ifJ hw (fun (s : (List Str)) (σ : L2.St) (H : Hp) => ∃ Ho2, Same Ho Ho2 ∧ (fun (s : (List Str)) (σ : L2.St) (H Ho : Hp) => ∃ (v_kinds_ : V), σ = [some v_spring_, some (V.int most_), some (V.int shape_), some (V.int size_), some (V.int hands_), some (V.int first_), some (V.int room_), some (V.int base_), some v_kinds_, none, none, none, none] ∧ Zs (g_spring_ ++ amb) H Ho ∧ Z.D K Ho v_kinds_ s) s σ H Ho2) (fun hb hw => ?_) (fun hb hw => ?_) ?_
    · refine l_asg (fun v => [_, _, _, _, _, _, _, _, some v, _, _, _, _]) (fun _ => rfl) ?_
      refine k_lst ?_
      refine y_cons ?_
      refine y_c ?_
      refine y_cons ?_
      refine y_c ?_
      refine y_cons ?_
      refine y_c ?_
      refine y_cons ?_
      refine y_c ?_
      refine y_cons ?_
      refine y_c ?_
      refine y_cons ?_
      refine y_c ?_
      refine y_nil ?_
      refine k_lstk (K := K) (xs := ([("load" : Str), ("load" : Str), ("load" : Str), ("load" : Str), ("store" : Str), ("swap" : Str)] : (List Str))) z (DqAll.cons (Dq.str _) (DqAll.cons (Dq.str _) (DqAll.cons (Dq.str _) (DqAll.cons (Dq.str _) (DqAll.cons (Dq.str _) (DqAll.cons (Dq.str _) DqAll.nil)))))) (by show 6 ≤ sizeLine; decide) (fun H p47 ws48 z d49 => ?_)
      replace z : Zs ([(p47, HO.lst ws48)] ++ (g_spring_ ++ amb)) H Ho := z
      have o50 := OL.mk (p := p47) d49
      refine l_fr o50 z (fun Ho e z d51 => ?_)
      replace d_kinds_ := D.mo d_kinds_ e
      replace d_spring_ := OH.mo d_spring_ e
      have es52 := (Same.refl _).trans e
      refine l_d (K := K) (Ho := Ho) hw d51 (fun kinds_ v_kinds_ d_kinds_ hw => ?_)
      exact (run_ret hw) _ _ ⟨_, es52, ⟨_, rfl, z, d_kinds_⟩⟩
    · refine y_nxS ?_
      exact (run_ret hw) _ _ ⟨_, (Same.refl _), ⟨_, rfl, z, d_kinds_⟩⟩
    rintro kinds_ σ H ⟨Ho, e, v_kinds_, rfl, z, d_kinds_⟩ hw
    replace d_spring_ := OH.mo d_spring_ e
    have es53 := es46.trans e
    refine l_asg (fun v => [_, _, _, _, _, _, _, _, _, some v, _, _, _]) (fun _ => rfl) ?_
    refine k_lst ?_
    refine y_nil ?_
    refine k_lstk (K := K) (xs := ([] : (List (P3 Int Str Int)))) z DqAll.nil (by show 0 ≤ sizeLine; decide) (fun H p54 ws55 z d56 => ?_)
    replace z : Zs ([(p54, HO.lst ws55)] ++ (g_spring_ ++ amb)) H Ho := z
    have o57 := OL.mk (p := p54) d56
    refine l_o hw z o57 (fun web_ v_web_ g_web_ z d_web_ hw => ?_)
    refine y_for ?_
    refine k_iR1 ?_
    refine y_cons ?_
    refine y_var rfl ?_
    refine y_nil ?_
    refine k_srcR1 (K := K) (Ho := Ho) hw.1 (fun J T => ?_)
    replace hw := (run_gd hw).2
    refine y_forL T hw (fun (s : (H3 Int Int Int) × (List (P3 Int Str Int))) (σ : L2.St) (H Ho : Hp) => ∃ (g_spring_ : Grp) (g_web_ : Grp) (y_at_ : Option V) (y_hand_ : Option V) (y_kind_ : Option V), σ = [some v_spring_, some (V.int most_), some (V.int shape_), some (V.int size_), some (V.int hands_), some (V.int first_), some (V.int room_), some (V.int base_), some v_kinds_, some v_web_, y_at_, y_hand_, y_kind_] ∧ Zs (g_web_ ++ (g_spring_ ++ amb)) H Ho ∧ OH K Ho v_spring_ s.1 g_spring_ ∧ OL K Ho v_web_ s.2 g_web_) ⟨_, _, _, _, _, rfl, z, d_spring_, d_web_⟩ ?_ ?_ ?_ ?_
    · intro s σ H Ho hI
      obtain ⟨spring_, web_⟩ := s
      obtain ⟨g_spring_, g_web_, y_at_, y_hand_, y_kind_, rfl, z, d_spring_, d_web_⟩ := hI
      exact ⟨_, z, mgN⟩
    · intro s σ H Ho H2 Ho2 hI e t
      obtain ⟨spring_, web_⟩ := s
      obtain ⟨g_spring_, g_web_, y_at_, y_hand_, y_kind_, rfl, z, d_spring_, d_web_⟩ := hI
      exact ⟨_, _, _, _, _, rfl, t _ z, OH.mo d_spring_ e, OL.mo d_web_ e⟩
    · intro at_ v_at_ s σ H Ho N e hI d_at_ hw
      obtain ⟨spring_, web_⟩ := s
      obtain ⟨g_spring_, g_web_, y_at_, y_hand_, y_kind_, rfl, z, d_spring_, d_web_⟩ := hI
      replace d_kinds_ := D.mo d_kinds_ e
      have es58 := es53.trans e
      obtain rfl := d_int d_at_
      refine y_gname (σ' := [some v_spring_, some (V.int most_), some (V.int shape_), some (V.int size_), some (V.int hands_), some (V.int first_), some (V.int room_), some (V.int base_), some v_kinds_, some v_web_, some (V.int at_), y_hand_, y_kind_]) rfl ?_
      refine l_asg (fun v => [_, _, _, _, _, _, _, _, _, _, _, some v, _]) (fun _ => rfl) ?_
      refine y_op ?_
      refine y_op ?_
      refine y_var rfl ?_
      refine y_call ?_
      refine y_cons ?_
      refine y_var rfl ?_
      refine y_cons ?_
      refine y_var rfl ?_
      refine y_nil ?_
      replace z : Zs (g_spring_ ++ (g_web_ ++ amb)) _ _ := z.go [g_web_, g_spring_] amb [1, 0]
      refine ⟨(g_web_ ++ amb), _, _, _, _, _, _, rfl, z, d_spring_, (Dq.int _), ?_⟩
      refine run_mono2 hw (fun t59 spring_ hw v g_spring_ H Ho e z d60 d_spring_ => ?_)
      replace d60 : Z.D K Ho v t59 := d60
      replace d_spring_ : OH K Ho v_spring_ spring_ g_spring_ := d_spring_
      replace d_kinds_ := D.mo d_kinds_ e
      replace d_web_ := OL.mo d_web_ e
      have es62 := (Same.refl _).trans e
      first | obtain rfl := d_int d60 | cases d_int d60
      refine y_i0 ?_
      refine y_c ?_
      refine y_ig (by decide) ?_
      refine l_i hw (fun hand_ hw => ?_)
      refine l_asg (fun v => [_, _, _, _, _, _, _, _, _, _, _, _, some v]) (fun _ => rfl) ?_
      refine y_op ?_
      refine y_var rfl ?_
      refine y_call ?_
      refine y_cons ?_
      refine y_var rfl ?_
      refine y_cons ?_
      refine y_cb ?_
      refine y_cons ?_
      refine y_var rfl ?_
      refine y_nil ?_
      refine y_len (LV.of d_kinds_) z ?_
      refine y_nil ?_
      refine ⟨(g_web_ ++ amb), _, _, _, _, _, _, rfl, z, d_spring_, (Dq.int _), ?_⟩
      refine run_mono2 hw (fun t63 spring_ hw v g_spring_ H Ho e z d64 d_spring_ => ?_)
      replace d64 : Z.D K Ho v t63 := d64
      replace d_spring_ : OH K Ho v_spring_ spring_ g_spring_ := d_spring_
      replace d_kinds_ := D.mo d_kinds_ e
      replace d_web_ := OL.mo d_web_ e
      have es66 := es62.trans e
      first | obtain rfl := d_int d64 | cases d_int d64
      refine y_ixL (LV.of d_kinds_) z hw (fun t67 w d68 hw => ?_)
      first | obtain rfl := d_str d68 | cases d_str d68
      refine l_s hw (fun kind_ hw => ?_)
      refine y_drop ?_
      refine y_bm ?_
      refine y_var rfl ?_
      refine g_tyL (OL.lv d_web_ (mgS mg0)) z ?_
      refine y_cons ?_
      refine k_tup ?_
      refine y_cons ?_
      refine y_var rfl ?_
      refine y_cons ?_
      refine y_var rfl ?_
      refine y_cons ?_
      refine y_op ?_
      refine y_op ?_
      refine y_var rfl ?_
      refine y_call ?_
      refine y_cons ?_
      refine y_var rfl ?_
      refine y_cons ?_
      refine y_var rfl ?_
      refine y_nil ?_
      refine ⟨(g_web_ ++ amb), _, _, _, _, _, _, rfl, z, d_spring_, (Dq.int _), ?_⟩
      refine run_mono2 hw (fun t69 spring_ hw v g_spring_ H Ho e z d70 d_spring_ => ?_)
      replace d70 : Z.D K Ho v t69 := d70
      replace d_spring_ : OH K Ho v_spring_ spring_ g_spring_ := d_spring_
      replace d_kinds_ := D.mo d_kinds_ e
      replace d_web_ := OL.mo d_web_ e
      have es72 := es66.trans e
      first | obtain rfl := d_int d70 | cases d_int d70
      refine y_i0 ?_
      refine y_c ?_
      refine y_ig (by decide) ?_
      refine y_nil ?_
      refine k_tupk (K := K) (x := (⟨hand_, kind_, ((base_ + t69) % (20 : Int))⟩ : (P3 Int Str Int))) z (by show 3 ≤ sizeLine; decide) _ rfl (DqAll.cons (Dq.int _) (DqAll.cons (Dq.str _) (DqAll.cons (Dq.int _) DqAll.nil))) (fun p H Ho e z d73 => ?_)
      replace d_kinds_ := D.mo d_kinds_ e
      replace d_spring_ := OH.mo d_spring_ e
      replace d_web_ := OL.mo d_web_ e
      have es74 := es72.trans e
      refine y_nil ?_
      replace z : Zs (g_web_ ++ (g_spring_ ++ amb)) _ _ := z.go [g_spring_, g_web_] amb [1, 0]
      refine g_app z d_web_ d73 hw (fun web_ g_web_ H z d_web_ hw => ?_)
      exact (run_ret hw) _ _ _ es74 ⟨_, _, _, _, _, rfl, z, d_spring_, d_web_⟩
    intro s σ H Ho e hI hw
    obtain ⟨spring_, web_⟩ := s
    obtain ⟨g_spring_, g_web_, y_at_, y_hand_, y_kind_, rfl, z, d_spring_, d_web_⟩ := hI
    have es75 := es53.trans e
    refine y_ret ?_
    refine y_var rfl ?_
    refine l_fr d_web_ z (fun Ho e z d_web_ => ?_)
    replace d_spring_ := OH.mo d_spring_ e
    have es76 := es75.trans e
    exact (run_ret hw) _ _ _ _ es76 z d_web_ d_spring_
def sp_law_meets (K : PySem.W.Frag) (cl : Nat → Addr) : Sp := fun vs H Q E => ∃ (amb : Grp) (Ho : Hp) (v0 : V) (x0 : (P3 Int Str Int)) (v1 : V) (x1 : (P3 Int Str Int)), vs = [v0, v1] ∧ Zs amb H Ho ∧ Z.D K Ho v0 x0 ∧ Z.D K Ho v1 x1 ∧ (m_law_meets x0 x1).run fun r => ∀ v H' Ho', Same Ho Ho' → Zs amb H' Ho' → Z.D K Ho' v r → Q v H'
abbrev s_law_meets : Stmt := topS 19
theorem sc_law_meets : FnScope ["one", "other"] ["one", "other"] (defScope s_law_meets) := ⟨rfl, rfl, rfl, by decide +kernel, rfl, by decide +kernel, by decide +kernel⟩
theorem ok_law_meets {f : Addr} {fd : FuncData} (F : Fun K "_law_meets" "_law_meets" s_law_meets f fd) :
    FnOk P w K mg base CX0 1 f fd ["one", "other"] (sp_law_meets K cl) := by
  refine F.ok sc_law_meets (fun vs H Q E h => ?_) (fun cdv A outer s H vs Q E hr h => ?_)
  · obtain ⟨amb, Ho, v_one_, one_, v_other_, other_, rfl, _⟩ := h
    rfl
  · obtain ⟨amb, Ho, v_one_, one_, v_other_, other_, rfl, z, d_one_, d_other_, hw⟩ := h
    refine ⟨_, pss_cons (ps_if (PW.pt (pw_or (pt_cmpR (op_eq) (pe_ix (zix_tup (K := K) rfl) (pv 0) (pe_int) (fun _ _ => rfl)) (pe_ix (zix_tup (K := K) rfl) (pv 1) (pe_int) (fun _ _ => rfl)) (nomark _)) (pw_or1 (pt_cmpR (op_ne) (pe_ix (zix_tup (K := K) rfl) (pv 0) (pe_int) (fun _ _ => rfl)) (pe_ix (zix_tup (K := K) rfl) (pv 1) (pe_int) (fun _ _ => rfl)) (nomark _))))) (pss_cons (ps_ret (pe_bl)) (pss_nil)) (pss_nil)) (pss_cons (ps_ret (pe_or (pe_cmpR (op_ne) (pe_ix (zix_tup (K := K) rfl) (pv 0) (pe_int) (fun _ _ => rfl)) (pe_str) (nomark _)) (pe_one (pe_cmpR (op_ne) (pe_ix (zix_tup (K := K) rfl) (pv 1) (pe_int) (fun _ _ => rfl)) (pe_str) (nomark _))))) (pss_nil)), ?_⟩
    refine y_ifS ?_
    refine y_or ?_
    refine y_test ?_
    refine y_op ?_
    refine y_op ?_
    refine y_var rfl ?_
    refine y_c ?_
    refine y_ixT (y := one_.a) d_one_ z ⟨_, rfl, rfl⟩ (fun w d1 => ?_)
    first | obtain rfl := d_int d1 | cases d_int d1
    refine y_op ?_
    refine y_var rfl ?_
    refine y_c ?_
    refine y_ixT (y := other_.a) d_other_ z ⟨_, rfl, rfl⟩ (fun w d2 => ?_)
    first | obtain rfl := d_int d2 | cases d_int d2
    refine y_eqi ?_
    refine ⟨_, rfl, ?_⟩
    refine w_orP (a := (decide (one_.a = other_.a))) (!decide (one_.c = other_.c)) (fun hb hq => ?_) ?_
    · refine y_test ?_
      refine y_op ?_
      refine y_op ?_
      refine y_var rfl ?_
      refine y_c ?_
      refine y_ixT (y := one_.c) d_one_ z ⟨_, rfl, rfl⟩ (fun w d3 => ?_)
      first | obtain rfl := d_int d3 | cases d_int d3
      refine y_op ?_
      refine y_var rfl ?_
      refine y_c ?_
      refine y_ixT (y := other_.c) d_other_ z ⟨_, rfl, rfl⟩ (fun w d4 => ?_)
      first | obtain rfl := d_int d4 | cases d_int d4
      refine y_nei ?_
      refine ⟨_, rfl, ?_⟩
      exact hq
    refine y_cases hw (fun hb hw => ?_) (fun hb hw => ?_)
    · refine y_ret ?_
      refine y_c ?_
      exact (run_ret hw) _ _ _ (Same.refl _) z (Dq.bl _)
    · refine y_nxS ?_
      refine y_ret ?_
      refine y_orV ?_
      refine y_op ?_
      refine y_op ?_
      refine y_var rfl ?_
      refine y_c ?_
      refine y_ixT (y := one_.b) d_one_ z ⟨_, rfl, rfl⟩ (fun w d5 => ?_)
      first | obtain rfl := d_str d5 | cases d_str d5
      refine y_c ?_
      refine y_nes ?_
      refine ⟨_, rfl, ?_⟩
      refine w_orPV (a := (!decide (one_.b = ("load" : Str)))) (!decide (other_.b = ("load" : Str))) (fun hb hq => ?_) ?_
      · refine y_op ?_
        refine y_op ?_
        refine y_var rfl ?_
        refine y_c ?_
        refine y_ixT (y := other_.b) d_other_ z ⟨_, rfl, rfl⟩ (fun w d6 => ?_)
        first | obtain rfl := d_str d6 | cases d_str d6
        refine y_c ?_
        refine y_nes ?_
        exact hq
      exact (run_ret hw) _ _ _ (Same.refl _) z (Dq.bl _)
def sp_law_step (K : PySem.W.Frag) (cl : Nat → Addr) : Sp := fun vs H Q E => ∃ (amb : Grp) (Ho : Hp) (v0 : V) (x0 : (P3 Int Str Int)) (v1 : V) (x1 : (P3 Int Str Int)), vs = [v0, v1] ∧ Zs amb H Ho ∧ Z.D K Ho v0 x0 ∧ Z.D K Ho v1 x1 ∧ (m_law_step x0 x1).run fun r => ∀ v H' Ho', Same Ho Ho' → Zs amb H' Ho' → Z.D K Ho' v r → Q v H'
abbrev s_law_step : Stmt := topS 20
theorem sc_law_step : FnScope ["one", "other"] ["one", "other"] (defScope s_law_step) := ⟨rfl, rfl, rfl, by decide +kernel, rfl, by decide +kernel, by decide +kernel⟩
theorem ok_law_step {f : Addr} {fd : FuncData} (F : Fun K "_law_step" "_law_step" s_law_step f fd) {f_law_meets : Addr} {fd_law_meets : FuncData} (c_law_meets : Cal P w K mg base CX0 "_law_meets" ["one", "other"] 1 (sp_law_meets K cl) f_law_meets fd_law_meets) :
    FnOk P w K mg base CX0 2 f fd ["one", "other"] (sp_law_step K cl) := by
  refine F.ok sc_law_step (fun vs H Q E h => ?_) (fun cdv A outer s H vs Q E hr h => ?_)
  · obtain ⟨amb, Ho, v_one_, one_, v_other_, other_, rfl, _⟩ := h
    rfl
  · obtain ⟨amb, Ho, v_one_, one_, v_other_, other_, rfl, z, d_one_, d_other_, hw⟩ := h
    refine ⟨_, pss_cons (ps_ret (pe_or (pe_cmpR (op_eq) (pe_ix (zix_tup (K := K) rfl) (pv 0) (pe_int) (fun _ _ => rfl)) (pe_ix (zix_tup (K := K) rfl) (pv 1) (pe_int) (fun _ _ => rfl)) (nomark _)) (pe_one (pe_call c_law_meets.ok (hr.mono (by decide)) (by rfl) c_law_meets.g c_law_meets.kp c_law_meets.b .nil pass0 (pa_cons (pv 0) (pa_cons (pv 1) (pa_nil))))))) (pss_nil), ?_⟩
    refine y_ret ?_
    refine y_orV ?_
    refine y_op ?_
    refine y_op ?_
    refine y_var rfl ?_
    refine y_c ?_
    refine y_ixT (y := one_.a) d_one_ z ⟨_, rfl, rfl⟩ (fun w d1 => ?_)
    first | obtain rfl := d_int d1 | cases d_int d1
    refine y_op ?_
    refine y_var rfl ?_
    refine y_c ?_
    refine y_ixT (y := other_.a) d_other_ z ⟨_, rfl, rfl⟩ (fun w d2 => ?_)
    first | obtain rfl := d_int d2 | cases d_int d2
    refine y_eqi ?_
    refine ⟨_, rfl, ?_⟩
    refine w_orVJ hw (fun (s : Bool) (v : V) (H2 : Hp) => ∃ (Ho2 : Hp), Same Ho Ho2 ∧ Zs amb H2 Ho2 ∧ v = V.bl s) (fun hb hw => ?_) (fun hb hw => ?_) ?_
    · exact (run_ret hw) _ _ ⟨_, (Same.refl _), z, rfl⟩
    · refine y_call ?_
      refine y_cons ?_
      refine y_var rfl ?_
      refine y_cons ?_
      refine y_var rfl ?_
      refine y_nil ?_
      refine ⟨amb, _, _, _, _, _, rfl, z, d_one_, d_other_, ?_⟩
      refine run_mono3 hw (fun t3 hw v H Ho e z d4 => ?_)
      replace d_one_ := D.mo d_one_ e
      replace d_other_ := D.mo d_other_ e
      have es6 := (Same.refl _).trans e
      first | obtain rfl := d_bool d4 | cases d_bool d4
      exact (run_ret hw) _ _ ⟨_, es6, z, rfl⟩
    rintro t7 v H ⟨Ho, e, z, rfl⟩ hw
    replace d_one_ := D.mo d_one_ e
    replace d_other_ := D.mo d_other_ e
    have es10 := (Same.refl _).trans e
    exact (run_ret hw) _ _ _ es10 z (Dq.bl _)
def sp_law_free_order (K : PySem.W.Frag) (cl : Nat → Addr) : Sp := fun vs H Q E => ∃ (amb : Grp) (Ho : Hp) (v0 : V) (x0 : (H3 Int Int Int)) (g0 : Grp) (v1 : V) (x1 : (List (P3 Int Str Int))), vs = [v0, v1] ∧ Zs (g0 ++ amb) H Ho ∧ OH K Ho v0 x0 g0 ∧ LV K amb Ho v1 x1 ∧ (m_law_free_order x0 x1).run fun r => ∀ v h0 H' Ho', Same Ho Ho' → Zs (h0 ++ amb) H' Ho' → Z.D K Ho' v r.1 → OH K Ho' v0 r.2 h0 → Q v H'
abbrev s_law_free_order : Stmt := topS 21
theorem sc_law_free_order : FnScope ["spring", "web", "waits", "i", "j", "free", "order", "again"] ["spring", "web"] (defScope s_law_free_order) := ⟨rfl, rfl, rfl, by decide +kernel, rfl, by decide +kernel, by decide +kernel⟩
theorem ok_law_free_order {f : Addr} {fd : FuncData} (F : Fun K "_law_free_order" "_law_free_order" s_law_free_order f fd) {f_law_step : Addr} {fd_law_step : FuncData} (c_law_step : Cal P w K mg base CX0 "_law_step" ["one", "other"] 2 (sp_law_step K cl) f_law_step fd_law_step) {f_law_draw : Addr} {fd_law_draw : FuncData} (c_law_draw : Cal P w K mg base CX0 "_law_draw" ["spring", "many"] 1 (sp_law_draw K cl) f_law_draw fd_law_draw) (m_len : mg "len" = none) (m_range : mg "range" = none) :
    FnOk P w K mg base CX0 3 f fd ["spring", "web"] (sp_law_free_order K cl) := by
  refine F.ok sc_law_free_order (fun vs H Q E h => ?_) (fun cdv A outer s H vs Q E hr h => ?_)
  · obtain ⟨amb, Ho, v_spring_, spring_, g_spring_, v_web_, web_, rfl, _⟩ := h
    rfl
  · obtain ⟨amb, Ho, v_spring_, spring_, g_spring_, v_web_, web_, rfl, z, d_spring_, d_web_, hw⟩ := h
    refine ⟨_, pss_cons (ps_set (i := 2) sc_law_free_order.nd rfl (Or.inr rfl) (pe_lc (own := [("j", 4)]) rfl sc_law_free_order.nd (pi_range1 (by rfl) m_range (pa_cons (pe_callB (zlen (K := K) rfl) (by rfl) m_len (by decide +kernel) (pa_cons (pv 1) (pa_nil))) (pa_nil))) (blkOk_by (N := ["spring", "web", "waits", "i", "j", "free", "order", "again"]) (sc := defScope s_law_free_order) (by decide +kernel)) (fun _ _ _ _ _ => pg_name (i := 4) sc_law_free_order.nd rfl (Or.inr rfl)) (fun _ _ _ _ _ => pts_nil) (fun _ _ _ _ _ => pe_callB (zlen (K := K) rfl) (by rfl) m_len (by decide +kernel) (pa_cons (pe_lc (own := [("i", 3)]) rfl sc_law_free_order.nd (pi_range1 (by rfl) m_range (pa_cons (pv 4) (pa_nil))) (blkOk_by (N := ["spring", "web", "waits", "i", "j", "free", "order", "again"]) (sc := ({ kind := PySem.ScopeKind.function, names := [ (PySem.Str.ofString ".0", PySem.NameKind.local), (PySem.Str.ofString "j", PySem.NameKind.cell), (PySem.Str.ofString "len", PySem.NameKind.globalImplicit), (PySem.Str.ofString "range", PySem.NameKind.globalImplicit), (PySem.Str.ofString "web", PySem.NameKind.cell)], isGenerator := false, isCoroutine := false, more := [] : PySem.Scope })) (by decide +kernel)) (fun _ _ _ _ _ => pg_name (i := 3) sc_law_free_order.nd rfl (Or.inl rfl)) (fun _ _ _ _ _ => pts_one (pt_val (pe_call c_law_step.ok (hr.mono (by decide)) (by rfl) c_law_step.g c_law_step.kp c_law_step.b .nil pass0 (pa_cons (pe_ix (zix_list (K := K) rfl) (pv 1) (pv 3) (fun _ _ => rfl)) (pa_cons (pe_ix (zix_list (K := K) rfl) (pv 1) (pv 4) (fun _ _ => rfl)) (pa_nil)))))) (fun _ _ _ _ _ => pv 3)) (pa_nil))))) (pss_cons (ps_setLc (i := 5) (own := [("j", 4)]) rfl sc_law_free_order.nd rfl rfl (sw_true rfl rfl rfl (by decide +kernel)) (pi_range1 (by rfl) m_range (pa_cons (pe_callB (zlen (K := K) rfl) (by rfl) m_len (by decide +kernel) (pa_cons (pv 1) (pa_nil))) (pa_nil))) (blkOk_by (N := ["spring", "web", "waits", "i", "j", "free", "order", "again"]) (sc := defScope s_law_free_order) (by decide +kernel)) (fun _ _ _ _ _ => pg_name (i := 4) sc_law_free_order.nd rfl (Or.inl rfl)) (fun _ _ _ _ _ => pts_one (pt_cmpR (op_eq) (pe_ix (zix_list (K := K) rfl) (pv 2) (pv 4) (fun _ _ => rfl)) (pe_int) (nomark _))) (fun _ _ _ _ _ => pv 4)) (pss_cons (ps_set (i := 6) sc_law_free_order.nd rfl (Or.inl rfl) (pe_lst (pa_nil))) (pss_cons (ps_for PassesOwn.never rfl (pi_range1 (by rfl) m_range (pa_cons (pe_callB (zlen (K := K) rfl) (by rfl) m_len (by decide +kernel) (pa_cons (pv 1) (pa_nil))) (pa_nil))) (pg_name (i := 7) sc_law_free_order.nd rfl (Or.inl rfl)) (pss_cons (ps_set (i := 3) sc_law_free_order.nd rfl (Or.inl rfl) (pe_bm PySem.F.plainAttrs_list PySem.F.slot_list_pop PySem.F.type_list_pop mt_popAt (pv 5) (pa_cons (pe_call c_law_draw.ok (hr.mono (by decide)) (by rfl) c_law_draw.g c_law_draw.kp c_law_draw.b .nil pass0 (pa_cons (pv 0) (pa_cons (pe_callB (zlen (K := K) rfl) (by rfl) m_len (by decide +kernel) (pa_cons (pv 5) (pa_nil))) (pa_nil)))) (pa_nil)))) (pss_cons (ps_expr (pe_bm PySem.F.plainAttrs_list PySem.F.slot_list_append PySem.F.type_list_append mt_append (pv 6) (pa_cons (pv 3) (pa_nil)))) (pss_cons (ps_for PassesOwn.never rfl (pi_range2 (by rfl) m_range (pa_cons (pe_op op_add (pv 3) (pe_int)) (pa_cons (pe_callB (zlen (K := K) rfl) (by rfl) m_len (by decide +kernel) (pa_cons (pv 1) (pa_nil))) (pa_nil)))) (pg_name (i := 4) sc_law_free_order.nd rfl (Or.inl rfl)) (pss_cons (ps_if (pt_val (pe_call c_law_step.ok (hr.mono (by decide)) (by rfl) c_law_step.g c_law_step.kp c_law_step.b .nil pass0 (pa_cons (pe_ix (zix_list (K := K) rfl) (pv 1) (pv 3) (fun _ _ => rfl)) (pa_cons (pe_ix (zix_list (K := K) rfl) (pv 1) (pv 4) (fun _ _ => rfl)) (pa_nil))))) (pss_cons (ps_asg (pe_op op_sub (pe_ix (zix_list (K := K) rfl) (pv 2) (pv 4) (fun _ _ => rfl)) (pe_int)) (pg_sub (pv 2) (pv 4) set_list)) (pss_cons (ps_if (pt_cmpR (op_eq) (pe_ix (zix_list (K := K) rfl) (pv 2) (pv 4) (fun _ _ => rfl)) (pe_int) (nomark _)) (pss_cons (ps_expr (pe_bm PySem.F.plainAttrs_list PySem.F.slot_list_append PySem.F.type_list_append mt_append (pv 5) (pa_cons (pv 4) (pa_nil)))) (pss_nil)) (pss_nil)) (pss_nil))) (pss_nil)) (pss_nil))) (pss_nil))))) (pss_cons (ps_ret (pv 6)) (pss_nil))))), ?_⟩
    refine l_asg (fun v => [_, _, some v, _, _, _, _, _]) (fun _ => rfl) ?_
    refine y_lc ?_
    refine k_iR1 ?_
    refine y_cons ?_
    refine y_cb ?_
    refine y_cons ?_
    refine y_var rfl ?_
    refine y_nil ?_
    refine y_len (LV.sub d_web_ (mgS mgE)) z ?_
    refine y_nil ?_
    refine k_srcR1 (K := K) (Ho := Ho) hw.1 (fun J T => ?_)
    replace hw := (run_gd hw).2
    refine y_lcG z mgN T hw (fun r1 j_ v_j_ H Ho N N' e z d_j_ hw => ?_) (fun t22 H Ho e hw p19 ws20 z d21 => ?_)
    · replace z : Zs ([r1] ++ (g_spring_ ++ amb)) H Ho := z
      replace d_spring_ := OH.mo d_spring_ e
      replace d_web_ := LV.mo d_web_ e
      have es2 := (Same.refl _).trans e
      obtain rfl := d_int d_j_
      refine y_gname (σ' := [some v_spring_, some v_web_, none, none, some (V.int j_), none, none, none]) rfl ?_
      refine ⟨rfl, ?_⟩
      refine y_yes (w_t ?_)
      replace hw := run_itT (run_bret hw) rfl
      refine y_cb ?_
      refine y_cons ?_
      refine y_lc ?_
      refine k_iR1 ?_
      refine y_cons ?_
      refine y_var rfl ?_
      refine y_nil ?_
      refine k_srcR1 (K := K) (Ho := Ho) hw.1 (fun J T => ?_)
      replace hw := (run_gd hw).2
      refine y_lcG z mgN T hw (fun r3 i_ v_i_ H Ho N N' e z d_i_ hw => ?_) (fun t16 H Ho e hw p13 ws14 z d15 => ?_)
      · replace z : Zs ([r3] ++ ([r1] ++ (g_spring_ ++ amb))) H Ho := z
        replace d_spring_ := OH.mo d_spring_ e
        replace d_web_ := LV.mo d_web_ e
        have es4 := (Same.refl _).trans e
        obtain rfl := d_int d_i_
        refine y_gname (σ' := [some v_spring_, some v_web_, none, some (V.int i_), some (V.int j_), none, none, none]) rfl ?_
        refine ⟨rfl, ?_⟩
        refine y_tB ?_
        refine y_call ?_
        refine y_cons ?_
        refine y_op ?_
        refine y_var rfl ?_
        refine y_var rfl ?_
        refine y_ixL (LV.sub d_web_ (mgS (mgS (mgS mgE)))) z hw (fun t5 w d6 hw => ?_)
        refine y_cons ?_
        refine y_op ?_
        refine y_var rfl ?_
        refine y_var rfl ?_
        refine y_ixL (LV.sub d_web_ (mgS (mgS (mgS mgE)))) z hw (fun t7 w d8 hw => ?_)
        refine y_nil ?_
        refine ⟨([r3] ++ ([r1] ++ (g_spring_ ++ amb))), _, _, _, _, _, rfl, z, d6, d8, ?_⟩
        refine run_mono3 hw (fun t9 hw v H Ho e z d10 => ?_)
        replace d_spring_ := OH.mo d_spring_ e
        replace d_web_ := LV.mo d_web_ e
        have es12 := (Same.refl _).trans e
        first | obtain rfl := d_bool d10 | cases d_bool d10
        refine ⟨_, rfl, ?_⟩
        refine w_two (fun hb => ?_) (fun hb => ?_)
        · replace hw := run_itT (run_ret hw) hb
          refine y_var rfl ?_
          exact (run_ret hw) _ _ _ es12 z (Dq.int _)
        · exact run_itF (run_ret hw) hb _ _ es12 z
      replace d_spring_ := OH.mo d_spring_ e
      replace d_web_ := LV.mo d_web_ e
      have es17 := (Same.refl _).trans e
      replace z : Zs ([(p13, HO.lst ws14)] ++ ([r1] ++ (g_spring_ ++ amb))) H Ho := z
      have o18 := OL.mk (p := p13) d15
      refine y_nil ?_
      refine y_len (OL.lv o18 mg0) z ?_
      replace z : Zs ([r1] ++ (g_spring_ ++ amb)) _ _ := z.go [[(p13, HO.lst ws14)], [r1], g_spring_] amb [1, 2]
      exact (run_ret hw) _ _ _ es17 z (Dq.int _)
    replace d_spring_ := OH.mo d_spring_ e
    replace d_web_ := LV.mo d_web_ e
    have es23 := (Same.refl _).trans e
    replace z : Zs ([(p19, HO.lst ws20)] ++ (g_spring_ ++ amb)) H Ho := z
    have o24 := OL.mk (p := p19) d21
    refine l_o hw z o24 (fun waits_ v_waits_ g_waits_ z d_waits_ hw => ?_)
    refine l_asg (fun v => [_, _, _, _, _, some v, _, _]) (fun _ => rfl) ?_
    refine y_lc ?_
    refine k_iR1 ?_
    refine y_cons ?_
    refine y_cb ?_
    refine y_cons ?_
    refine y_var rfl ?_
    refine y_nil ?_
    refine y_len (LV.sub d_web_ (mgS (mgS mgE))) z ?_
    refine y_nil ?_
    refine k_srcR1 (K := K) (Ho := Ho) hw.1 (fun J T => ?_)
    replace hw := (run_gd hw).2
    refine y_lcG z mgN T hw (fun r25 j_ v_j_ H Ho N N' e z d_j_ hw => ?_) (fun t32 H Ho e hw p29 ws30 z d31 => ?_)
    · replace z : Zs ([r25] ++ (g_waits_ ++ (g_spring_ ++ amb))) H Ho := z
      replace d_spring_ := OH.mo d_spring_ e
      replace d_waits_ := OL.mo d_waits_ e
      replace d_web_ := LV.mo d_web_ e
      have es26 := es23.trans e
      obtain rfl := d_int d_j_
      refine y_gname (σ' := [some v_spring_, some v_web_, some v_waits_, none, some (V.int j_), none, none, none]) rfl ?_
      refine ⟨rfl, ?_⟩
      refine y_test ?_
      refine y_op ?_
      refine y_op ?_
      refine y_var rfl ?_
      refine y_var rfl ?_
      refine y_ixL (OL.lv d_waits_ (mgS mg0)) z hw (fun t27 w d28 hw => ?_)
      first | obtain rfl := d_int d28 | cases d_int d28
      refine y_c ?_
      refine y_eqi ?_
      refine ⟨_, rfl, ?_⟩
      refine w_two (fun hb => ?_) (fun hb => ?_)
      · replace hw := run_itT (run_ret hw) hb
        refine y_var rfl ?_
        exact (run_ret hw) _ _ _ (Same.refl _) z (Dq.int _)
      · exact run_itF (run_ret hw) hb _ _ (Same.refl _) z
    replace d_spring_ := OH.mo d_spring_ e
    replace d_waits_ := OL.mo d_waits_ e
    replace d_web_ := LV.mo d_web_ e
    have es33 := es23.trans e
    replace z : Zs ([(p29, HO.lst ws30)] ++ (g_waits_ ++ (g_spring_ ++ amb))) H Ho := z
    have o34 := OL.mk (p := p29) d31
    refine l_o hw z o34 (fun free_ v_free_ g_free_ z d_free_ hw => ?_)
    refine l_asg (fun v => [_, _, _, _, _, _, some v, _]) (fun _ => rfl) ?_
    refine k_lst ?_
    refine y_nil ?_
    refine k_lstk (K := K) (xs := ([] : (List Int))) z DqAll.nil (by show 0 ≤ sizeLine; decide) (fun H p35 ws36 z d37 => ?_)
    replace z : Zs ([(p35, HO.lst ws36)] ++ (g_free_ ++ (g_waits_ ++ (g_spring_ ++ amb)))) H Ho := z
    have o38 := OL.mk (p := p35) d37
    refine l_o hw z o38 (fun order_ v_order_ g_order_ z d_order_ hw => ?_)
    refine y_for ?_
    refine k_iR1 ?_
    refine y_cons ?_
    refine y_cb ?_
    refine y_cons ?_
    refine y_var rfl ?_
    refine y_nil ?_
    refine y_len (LV.sub d_web_ (mgS (mgS (mgS (mgS mgE))))) z ?_
    refine y_nil ?_
    refine k_srcR1 (K := K) (Ho := Ho) hw.1 (fun J T => ?_)
    replace hw := (run_gd hw).2
    refine y_forL T hw (fun (s : (H3 Int Int Int) × (List Int) × (List Int) × (List Int)) (σ : L2.St) (H Ho : Hp) => ∃ (g_spring_ : Grp) (g_waits_ : Grp) (g_free_ : Grp) (g_order_ : Grp) (y_i_ : Option V) (y_j_ : Option V) (y_again_ : Option V), σ = [some v_spring_, some v_web_, some v_waits_, y_i_, y_j_, some v_free_, some v_order_, y_again_] ∧ Zs (g_order_ ++ (g_free_ ++ (g_waits_ ++ (g_spring_ ++ amb)))) H Ho ∧ OH K Ho v_spring_ s.1 g_spring_ ∧ OL K Ho v_waits_ s.2.1 g_waits_ ∧ OL K Ho v_free_ s.2.2.1 g_free_ ∧ OL K Ho v_order_ s.2.2.2 g_order_) ⟨_, _, _, _, _, _, _, rfl, z, d_spring_, d_waits_, d_free_, d_order_⟩ ?_ ?_ ?_ ?_
    · intro s σ H Ho hI
      obtain ⟨spring_, waits_, free_, order_⟩ := s
      obtain ⟨g_spring_, g_waits_, g_free_, g_order_, y_i_, y_j_, y_again_, rfl, z, d_spring_, d_waits_, d_free_, d_order_⟩ := hI
      exact ⟨_, z, mgN⟩
    · intro s σ H Ho H2 Ho2 hI e t
      obtain ⟨spring_, waits_, free_, order_⟩ := s
      obtain ⟨g_spring_, g_waits_, g_free_, g_order_, y_i_, y_j_, y_again_, rfl, z, d_spring_, d_waits_, d_free_, d_order_⟩ := hI
      exact ⟨_, _, _, _, _, _, _, rfl, t _ z, OH.mo d_spring_ e, OL.mo d_waits_ e, OL.mo d_free_ e, OL.mo d_order_ e⟩
    · intro again_ v_again_ s σ H Ho N e hI d_again_ hw
      obtain ⟨spring_, waits_, free_, order_⟩ := s
      obtain ⟨g_spring_, g_waits_, g_free_, g_order_, y_i_, y_j_, y_again_, rfl, z, d_spring_, d_waits_, d_free_, d_order_⟩ := hI
      replace d_web_ := LV.mo d_web_ e
      have es39 := es33.trans e
      obtain rfl := d_int d_again_
      refine y_gname (σ' := [some v_spring_, some v_web_, some v_waits_, y_i_, y_j_, some v_free_, some v_order_, some (V.int again_)]) rfl ?_
      refine l_asg (fun v => [_, _, _, some v, _, _, _, _]) (fun _ => rfl) ?_
      refine y_bm ?_
      refine y_var rfl ?_
      refine g_tyL (OL.lv d_free_ (mgS mg0)) z ?_
      refine y_cons ?_
      refine y_call ?_
      refine y_cons ?_
      refine y_var rfl ?_
      refine y_cons ?_
      refine y_cb ?_
      refine y_cons ?_
      refine y_var rfl ?_
      refine y_nil ?_
      refine y_len (OL.lv d_free_ (mgS mg0)) z ?_
      refine y_nil ?_
      replace z : Zs (g_spring_ ++ (g_order_ ++ (g_free_ ++ (g_waits_ ++ amb)))) _ _ := z.go [g_order_, g_free_, g_waits_, g_spring_] amb [3, 0, 1, 2]
      refine ⟨(g_order_ ++ (g_free_ ++ (g_waits_ ++ amb))), _, _, _, _, _, _, rfl, z, d_spring_, (Dq.int _), ?_⟩
      refine run_mono2 hw (fun t40 spring_ hw v g_spring_ H Ho e z d41 d_spring_ => ?_)
      replace d41 : Z.D K Ho v t40 := d41
      replace d_spring_ : OH K Ho v_spring_ spring_ g_spring_ := d_spring_
      replace d_free_ := OL.mo d_free_ e
      replace d_order_ := OL.mo d_order_ e
      replace d_waits_ := OL.mo d_waits_ e
      replace d_web_ := LV.mo d_web_ e
      have es43 := (Same.refl _).trans e
      first | obtain rfl := d_int d41 | cases d_int d41
      refine y_nil ?_
      replace z : Zs (g_free_ ++ (g_spring_ ++ (g_order_ ++ (g_waits_ ++ amb)))) _ _ := z.go [g_spring_, g_order_, g_free_, g_waits_] amb [2, 0, 1, 3]
      refine g_popI z d_free_ hw (fun t44 free_ w g_free_ H z d_free_ d45 hw => ?_)
      first | obtain rfl := d_int d45 | cases d_int d45
      refine l_i hw (fun i_ hw => ?_)
      refine y_drop ?_
      refine y_bm ?_
      refine y_var rfl ?_
      refine g_tyL (OL.lv d_order_ (mgS (mgS mg0))) z ?_
      refine y_cons ?_
      refine y_var rfl ?_
      refine y_nil ?_
      replace z : Zs (g_order_ ++ (g_free_ ++ (g_spring_ ++ (g_waits_ ++ amb)))) _ _ := z.go [g_free_, g_spring_, g_order_, g_waits_] amb [2, 0, 1, 3]
      refine g_app z d_order_ (Dq.int _) hw (fun order_ g_order_ H z d_order_ hw => ?_)
      refine y_for ?_
      refine k_iR2 ?_
      refine y_cons ?_
      refine y_op ?_
      refine y_var rfl ?_
      refine y_c ?_
      refine y_i0 ?_
      refine y_cons ?_
      refine y_cb ?_
      refine y_cons ?_
      refine y_var rfl ?_
      refine y_nil ?_
      refine y_len (LV.sub d_web_ (mgS (mgS (mgS (mgS mgE))))) z ?_
      refine y_nil ?_
      refine k_srcR2 (K := K) (Ho := Ho) hw.1 (fun J T => ?_)
      replace hw := (run_gd hw).2
      refine y_forL T hw (fun (s : (List Int) × (List Int)) (σ : L2.St) (H Ho : Hp) => ∃ (g_waits_ : Grp) (g_free_ : Grp) (y_j_ : Option V), σ = [some v_spring_, some v_web_, some v_waits_, some (V.int i_), y_j_, some v_free_, some v_order_, some (V.int again_)] ∧ Zs (g_order_ ++ (g_free_ ++ (g_spring_ ++ (g_waits_ ++ amb)))) H Ho ∧ OL K Ho v_waits_ s.1 g_waits_ ∧ OL K Ho v_free_ s.2 g_free_) ⟨_, _, _, rfl, z, d_waits_, d_free_⟩ ?_ ?_ ?_ ?_
      · intro s σ H Ho hI
        obtain ⟨waits_, free_⟩ := s
        obtain ⟨g_waits_, g_free_, y_j_, rfl, z, d_waits_, d_free_⟩ := hI
        exact ⟨_, z, mgN⟩
      · intro s σ H Ho H2 Ho2 hI e t
        obtain ⟨waits_, free_⟩ := s
        obtain ⟨g_waits_, g_free_, y_j_, rfl, z, d_waits_, d_free_⟩ := hI
        exact ⟨_, _, _, rfl, t _ z, OL.mo d_waits_ e, OL.mo d_free_ e⟩
      · intro j_ v_j_ s σ H Ho N e hI d_j_ hw
        obtain ⟨waits_, free_⟩ := s
        obtain ⟨g_waits_, g_free_, y_j_, rfl, z, d_waits_, d_free_⟩ := hI
        replace d_order_ := OL.mo d_order_ e
        replace d_spring_ := OH.mo d_spring_ e
        replace d_web_ := LV.mo d_web_ e
        have es46 := es43.trans e
        obtain rfl := d_int d_j_
        refine y_gname (σ' := [some v_spring_, some v_web_, some v_waits_, some (V.int i_), some (V.int j_), some v_free_, some v_order_, some (V.int again_)]) rfl ?_
        refine y_ifS ?_
        refine y_tB ?_
        refine y_call ?_
        refine y_cons ?_
        refine y_op ?_
        refine y_var rfl ?_
        refine y_var rfl ?_
        refine y_ixL (LV.sub d_web_ (mgS (mgS (mgS (mgS mgE))))) z hw (fun t47 w d48 hw => ?_)
        refine y_cons ?_
        refine y_op ?_
        refine y_var rfl ?_
        refine y_var rfl ?_
        refine y_ixL (LV.sub d_web_ (mgS (mgS (mgS (mgS mgE))))) z hw (fun t49 w d50 hw => ?_)
        refine y_nil ?_
        refine ⟨(g_order_ ++ (g_free_ ++ (g_spring_ ++ (g_waits_ ++ amb)))), _, _, _, _, _, rfl, z, d48, d50, ?_⟩
        refine run_mono3 hw (fun t51 hw v H Ho e z d52 => ?_)
        replace d_free_ := OL.mo d_free_ e
        replace d_order_ := OL.mo d_order_ e
        replace d_spring_ := OH.mo d_spring_ e
        replace d_waits_ := OL.mo d_waits_ e
        replace d_web_ := LV.mo d_web_ e
        have es54 := (Same.refl _).trans e
        first | obtain rfl := d_bool d52 | cases d_bool d52
        refine ⟨_, rfl, ?_⟩
        refine w_ifJ hw (fun (s : (List Int) × (List Int)) (σ : L2.St) (H : Hp) => ∃ Ho2, Same Ho Ho2 ∧ (fun (s : (List Int) × (List Int)) (σ : L2.St) (H Ho : Hp) => ∃ (g_waits_ : Grp) (g_free_ : Grp), σ = [some v_spring_, some v_web_, some v_waits_, some (V.int i_), some (V.int j_), some v_free_, some v_order_, some (V.int again_)] ∧ Zs (g_order_ ++ (g_free_ ++ (g_spring_ ++ (g_waits_ ++ amb)))) H Ho ∧ OL K Ho v_waits_ s.1 g_waits_ ∧ OL K Ho v_free_ s.2 g_free_) s σ H Ho2) (fun hb hw => ?_) (fun hb hw => ?_) ?_
        · refine y_asgG ?_
          refine y_op ?_
          refine y_op ?_
          refine y_var rfl ?_
          refine y_var rfl ?_
          refine y_ixL (OL.lv d_waits_ (mgS (mgS (mgS mg0)))) z hw (fun t55 w d56 hw => ?_)
          first | obtain rfl := d_int d56 | cases d_int d56
          refine y_c ?_
          refine y_i0 ?_
          refine y_gsub ?_
          refine y_var rfl ?_
          refine y_var rfl ?_
          replace z : Zs (g_waits_ ++ (g_order_ ++ (g_free_ ++ (g_spring_ ++ amb)))) _ _ := z.go [g_order_, g_free_, g_spring_, g_waits_] amb [3, 0, 1, 2]
          refine g_sti z d_waits_ (Dq.int _) hw (fun waits_ g_waits_ H z d_waits_ hw => ?_)
          refine y_ifS ?_
          refine y_test ?_
          refine y_op ?_
          refine y_op ?_
          refine y_var rfl ?_
          refine y_var rfl ?_
          refine y_ixL (OL.lv d_waits_ mg0) z hw (fun t57 w d58 hw => ?_)
          first | obtain rfl := d_int d58 | cases d_int d58
          refine y_c ?_
          refine y_eqi ?_
          refine ⟨_, rfl, ?_⟩
          refine w_ifJ hw (fun (s : (List Int)) (σ : L2.St) (H : Hp) => ∃ Ho2, Same Ho Ho2 ∧ (fun (s : (List Int)) (σ : L2.St) (H Ho : Hp) => ∃ (g_free_ : Grp), σ = [some v_spring_, some v_web_, some v_waits_, some (V.int i_), some (V.int j_), some v_free_, some v_order_, some (V.int again_)] ∧ Zs (g_waits_ ++ (g_order_ ++ (g_free_ ++ (g_spring_ ++ amb)))) H Ho ∧ OL K Ho v_free_ s g_free_) s σ H Ho2) (fun hb hw => ?_) (fun hb hw => ?_) ?_
          · refine y_drop ?_
            refine y_bm ?_
            refine y_var rfl ?_
            refine g_tyL (OL.lv d_free_ (mgS (mgS mg0))) z ?_
            refine y_cons ?_
            refine y_var rfl ?_
            refine y_nil ?_
            replace z : Zs (g_free_ ++ (g_waits_ ++ (g_order_ ++ (g_spring_ ++ amb)))) _ _ := z.go [g_waits_, g_order_, g_free_, g_spring_] amb [2, 0, 1, 3]
            refine g_app z d_free_ (Dq.int _) hw (fun free_ g_free_ H z d_free_ hw => ?_)
            replace z : Zs (g_waits_ ++ (g_order_ ++ (g_free_ ++ (g_spring_ ++ amb)))) _ _ := z.go [g_free_, g_waits_, g_order_, g_spring_] amb [1, 2, 0, 3]
            exact (run_ret hw) _ _ ⟨_, (Same.refl _), ⟨_, rfl, z, d_free_⟩⟩
          · refine y_nxS ?_
            exact (run_ret hw) _ _ ⟨_, (Same.refl _), ⟨_, rfl, z, d_free_⟩⟩
          rintro free_ σ H ⟨Ho, e, g_free_, rfl, z, d_free_⟩ hw
          replace d_order_ := OL.mo d_order_ e
          replace d_spring_ := OH.mo d_spring_ e
          replace d_waits_ := OL.mo d_waits_ e
          replace d_web_ := LV.mo d_web_ e
          have es59 := (Same.refl _).trans e
          replace z : Zs (g_order_ ++ (g_free_ ++ (g_spring_ ++ (g_waits_ ++ amb)))) _ _ := z.go [g_waits_, g_order_, g_free_, g_spring_] amb [1, 2, 3, 0]
          exact (run_ret hw) _ _ ⟨_, es59, ⟨_, _, rfl, z, d_waits_, d_free_⟩⟩
        · refine y_nxS ?_
          exact (run_ret hw) _ _ ⟨_, (Same.refl _), ⟨_, _, rfl, z, d_waits_, d_free_⟩⟩
        rintro ⟨waits_, free_⟩ σ H ⟨Ho, e, g_waits_, g_free_, rfl, z, d_waits_, d_free_⟩ hw
        replace d_order_ := OL.mo d_order_ e
        replace d_spring_ := OH.mo d_spring_ e
        replace d_web_ := LV.mo d_web_ e
        have es60 := es54.trans e
        exact (run_ret hw) _ _ _ es60 ⟨_, _, _, rfl, z, d_waits_, d_free_⟩
      intro s σ H Ho e hI hw
      obtain ⟨waits_, free_⟩ := s
      obtain ⟨g_waits_, g_free_, y_j_, rfl, z, d_waits_, d_free_⟩ := hI
      replace d_order_ := OL.mo d_order_ e
      replace d_spring_ := OH.mo d_spring_ e
      replace d_web_ := LV.mo d_web_ e
      have es61 := es43.trans e
      replace z : Zs (g_order_ ++ (g_free_ ++ (g_waits_ ++ (g_spring_ ++ amb)))) _ _ := z.go [g_order_, g_free_, g_spring_, g_waits_] amb [0, 1, 3, 2]
      exact (run_ret hw) _ _ _ es61 ⟨_, _, _, _, _, _, _, rfl, z, d_spring_, d_waits_, d_free_, d_order_⟩
    intro s σ H Ho e hI hw
    obtain ⟨spring_, waits_, free_, order_⟩ := s
    obtain ⟨g_spring_, g_waits_, g_free_, g_order_, y_i_, y_j_, y_again_, rfl, z, d_spring_, d_waits_, d_free_, d_order_⟩ := hI
    have es62 := es33.trans e
    refine y_ret ?_
    refine y_var rfl ?_
    refine l_fr d_order_ z (fun Ho e z d_order_ => ?_)
    replace d_free_ := OL.mo d_free_ e
    replace d_spring_ := OH.mo d_spring_ e
    replace d_waits_ := OL.mo d_waits_ e
    have es63 := es62.trans e
    replace z : Zs (g_spring_ ++ amb) _ _ := z.go [g_free_, g_waits_, g_spring_] amb [2]
    exact (run_ret hw) _ _ _ _ es63 z d_order_ d_spring_
def sp_law_whole (K : PySem.W.Frag) (cl : Nat → Addr) : Sp := fun vs H Q E => ∃ (amb : Grp) (Ho : Hp) (v0 : V) (x0 : Int), vs = [v0] ∧ Zs amb H Ho ∧ Z.D K Ho v0 x0 ∧ (m_law_whole x0).run fun r => ∀ v H' Ho', Same Ho Ho' → Zs amb H' Ho' → Z.D K Ho' v r → Q v H'
abbrev s_law_whole : Stmt := topS 22
theorem sc_law_whole : FnScope ["found"] ["found"] (defScope s_law_whole) := ⟨rfl, rfl, rfl, by decide +kernel, rfl, by decide +kernel, by decide +kernel⟩
theorem ok_law_whole {f : Addr} {fd : FuncData} (F : Fun K "_law_whole" "_law_whole" s_law_whole f fd) (m_isinstance : mg "isinstance" = none) (m_int : mg "int" = none) (m_bool : mg "bool" = none) :
    FnOk P w K mg base CX0 1 f fd ["found"] (sp_law_whole K cl) := by
  refine F.ok sc_law_whole (fun vs H Q E h => ?_) (fun cdv A outer s H vs Q E hr h => ?_)
  · obtain ⟨amb, Ho, v_found_, found_, rfl, _⟩ := h
    rfl
  · obtain ⟨amb, Ho, v_found_, found_, rfl, z, d_found_, hw⟩ := h
    refine ⟨_, pss_cons (ps_ret (pe_and (pe_callB (zisi (K := K) rfl) (by rfl) m_isinstance (by decide +kernel) (pa_cons (pv 0) (pa_cons (pe_bltn (v := .ty "int") (by rfl) m_int (by decide +kernel) rfl) pa_nil))) (pe_one (pe_not (pe_callB (zisi (K := K) rfl) (by rfl) m_isinstance (by decide +kernel) (pa_cons (pv 0) (pa_cons (pe_bltn (v := .ty "bool") (by rfl) m_bool (by decide +kernel) rfl) pa_nil))))))) (pss_nil), ?_⟩
    obtain rfl := d_int d_found_
    refine y_ret ?_
    refine y_andV ?_
    refine y_cb ?_
    refine y_cons ?_
    refine y_var rfl ?_
    refine y_cons (y_c (y_nil ?_))
    refine y_isi (x := found_) (Dq.int _) (b := true) (by decide +kernel) ?_
    refine ⟨_, rfl, ?_⟩
    refine w_andPV (a := true) (!false) (fun hb hq => ?_) ?_
    · refine y_notV ?_
      refine y_cb ?_
      refine y_cons ?_
      refine y_var rfl ?_
      refine y_cons (y_c (y_nil ?_))
      refine y_isi (x := found_) (Dq.int _) (b := false) (by decide +kernel) ?_
      refine ⟨_, rfl, ?_⟩
      exact hq
    exact (run_ret hw) _ _ _ (Same.refl _) z (Dq.bl _)
def sp_law_rows (K : PySem.W.Frag) (cl : Nat → Addr) : Sp := fun vs H Q E => ∃ (amb : Grp) (Ho : Hp) (v0 : V) (x0 : (List (P4 Int Int Int Int))) (v1 : V) (x1 : (List (P4 Int Int Int Int))), vs = [v0, v1] ∧ Zs amb H Ho ∧ LV K amb Ho v0 x0 ∧ LV K amb Ho v1 x1 ∧ (m_law_rows x0 x1).run fun r => ∀ v H' Ho', Same Ho Ho' → Zs amb H' Ho' → Z.D K Ho' v r → Q v H'
abbrev s_law_rows : Stmt := topS 23
theorem sc_law_rows : FnScope ["found", "due", "row", "number"] ["found", "due"] (defScope s_law_rows) := ⟨rfl, rfl, rfl, by decide +kernel, rfl, by decide +kernel, by decide +kernel⟩
theorem ok_law_rows {f : Addr} {fd : FuncData} (F : Fun K "_law_rows" "_law_rows" s_law_rows f fd) {f_law_whole : Addr} {fd_law_whole : FuncData} (c_law_whole : Cal P w K mg base CX0 "_law_whole" ["found"] 1 (sp_law_whole K cl) f_law_whole fd_law_whole) (m_isinstance : mg "isinstance" = none) (m_list : mg "list" = none) (m_len : mg "len" = none) (m_tuple : mg "tuple" = none) (m_all : mg "all" = none) :
    FnOk P w K mg base CX0 2 f fd ["found", "due"] (sp_law_rows K cl) := by
  refine F.ok sc_law_rows (fun vs H Q E h => ?_) (fun cdv A outer s H vs Q E hr h => ?_)
  · obtain ⟨amb, Ho, v_found_, found_, v_due_, due_, rfl, _⟩ := h
    rfl
  · obtain ⟨amb, Ho, v_found_, found_, v_due_, due_, rfl, z, d_found_, d_due_, hw⟩ := h
    refine ⟨_, pss_cons (ps_if (PW.pt (pw_or (pt_not (pt_val (pe_callB (zisi (K := K) rfl) (by rfl) m_isinstance (by decide +kernel) (pa_cons (pv 0) (pa_cons (pe_bltn (v := .ty "list") (by rfl) m_list (by decide +kernel) rfl) pa_nil))))) (pw_or1 (pt_cmpR (op_ne) (pe_callB (zlen (K := K) rfl) (by rfl) m_len (by decide +kernel) (pa_cons (pv 0) (pa_nil))) (pe_callB (zlen (K := K) rfl) (by rfl) m_len (by decide +kernel) (pa_cons (pv 1) (pa_nil))) (nomark _))))) (pss_cons (ps_ret (pe_bl)) (pss_nil)) (pss_nil)) (pss_cons (ps_for PassesOwn.never rfl (zpi_list (K := K) rfl (pv 0)) (pg_name (i := 2) sc_law_rows.nd rfl (Or.inl rfl)) (pss_cons (ps_if (PW.pt (pw_or (pt_not (pt_val (pe_callB (zisi (K := K) rfl) (by rfl) m_isinstance (by decide +kernel) (pa_cons (pv 2) (pa_cons (pe_bltn (v := .ty "tuple") (by rfl) m_tuple (by decide +kernel) rfl) pa_nil))))) (pw_or1 (pt_not (pt_val (pe_callB (zall (K := K) rfl rfl) (by rfl) m_all (by decide +kernel) (pa_cons (pe_lc (own := [("number", 3)]) rfl sc_law_rows.nd (zpi_tup (K := K) rfl (pv 2)) (blkOk_by (N := ["found", "due", "row", "number"]) (sc := defScope s_law_rows) (by decide +kernel)) (fun _ _ _ _ _ => pg_name (i := 3) sc_law_rows.nd rfl (Or.inl rfl)) (fun _ _ _ _ _ => pts_nil) (fun _ _ _ _ _ => pe_call c_law_whole.ok (hr.mono (by decide)) (by rfl) c_law_whole.g c_law_whole.kp c_law_whole.b .nil pass0 (pa_cons (pv 3) (pa_nil)))) (pa_nil)))))))) (pss_cons (ps_ret (pe_bl)) (pss_nil)) (pss_nil)) (pss_nil))) (pss_cons (ps_ret (pe_cmpR (zop_eqD (K := K) rfl hr.units) (pv 0) (pv 1) (nomark _))) (pss_nil))), ?_⟩
    refine y_ifS ?_
    refine y_or ?_
    refine y_not ?_
    refine y_tB ?_
    refine y_cb ?_
    refine y_cons ?_
    refine y_var rfl ?_
    refine y_cons (y_c (y_nil ?_))
    refine y_isi (x := _) (LV.dp (LV.sub d_found_ mgE) z) (b := true) (by decide +kernel) ?_
    refine ⟨_, rfl, ?_⟩
    refine w_orP (a := (!true)) (!decide (((found_).length : Int) = ((due_).length : Int))) (fun hb hq => ?_) ?_
    · refine y_test ?_
      refine y_op ?_
      refine y_cb ?_
      refine y_cons ?_
      refine y_var rfl ?_
      refine y_nil ?_
      refine y_len (LV.sub d_found_ mgE) z ?_
      refine y_cb ?_
      refine y_cons ?_
      refine y_var rfl ?_
      refine y_nil ?_
      refine y_len (LV.sub d_due_ mgE) z ?_
      refine y_nei ?_
      refine ⟨_, rfl, ?_⟩
      exact hq
    refine y_cases hw (fun hb hw => ?_) (fun hb hw => ?_)
    · refine y_ret ?_
      refine y_c ?_
      exact (run_ret hw) _ _ _ (Same.refl _) z (Dq.bl _)
    · refine y_nxS ?_
      refine y_for ?_
      refine k_iList ?_
      refine y_var rfl ?_
      refine k_srcL (r0 := amb) (LV.sub d_found_ mgE) mgE z (fun J T => ?_)
      refine y_forC T hw (fun (s : Unit) (σ : L2.St) (H Ho : Hp) => ∃ (y_row_ : Option V), σ = [some v_found_, some v_due_, y_row_, none] ∧ Zs amb H Ho) ⟨_, rfl, z⟩ ?_ ?_ ?_ ?_
      · intro s σ H Ho hI
        obtain ⟨y_row_, rfl, z⟩ := hI
        exact ⟨_, z, mgE⟩
      · intro s σ H Ho H2 Ho2 hI e t
        obtain ⟨y_row_, rfl, z⟩ := hI
        exact ⟨_, rfl, t _ z⟩
      · intro row_ v_row_ s σ H Ho N B e hI d_row_ hw
        obtain ⟨y_row_, rfl, z⟩ := hI
        replace d_due_ := LV.mo d_due_ e
        replace d_found_ := LV.mo d_found_ e
        have es1 := (Same.refl _).trans e
        refine y_gname (σ' := [some v_found_, some v_due_, some v_row_, none]) rfl ?_
        refine y_ifS ?_
        refine y_or ?_
        refine y_not ?_
        refine y_tB ?_
        refine y_cb ?_
        refine y_cons ?_
        refine y_var rfl ?_
        refine y_cons (y_c (y_nil ?_))
        refine y_isi (x := _) (D.mo d_row_ z.le) (b := true) (by decide +kernel) ?_
        refine ⟨_, rfl, ?_⟩
        refine w_orJ hw (fun (s : Bool) (v : Bool) (H2 : Hp) => ∃ (Ho2 : Hp), Same Ho Ho2 ∧ Zs amb H2 Ho2 ∧ v = s) (fun hb hw => ?_) (fun hb hw => ?_) ?_
        · exact (run_ret hw) _ _ ⟨_, (Same.refl _), z, rfl⟩
        · refine y_not ?_
          refine y_tB ?_
          refine y_cb ?_
          refine y_cons ?_
          refine y_lc ?_
          refine k_iTup ?_
          refine y_var rfl ?_
          refine k_srcT (xs := ([row_.a, row_.b, row_.c, row_.d] : (List Int))) d_row_ rfl z (fun J T => ?_)
          refine y_lcG z mgN T hw (fun r2 number_ v_number_ H Ho N N' e z d_number_ hw => ?_) (fun t11 H Ho e hw p8 ws9 z d10 => ?_)
          · replace z : Zs ([r2] ++ amb) H Ho := z
            replace d_due_ := LV.mo d_due_ e
            replace d_found_ := LV.mo d_found_ e
            replace d_row_ := D.mo d_row_ e
            have es3 := (Same.refl _).trans e
            obtain rfl := d_int d_number_
            refine y_gname (σ' := [some v_found_, some v_due_, some v_row_, some (V.int number_)]) rfl ?_
            refine ⟨rfl, ?_⟩
            refine y_yes (w_t ?_)
            replace hw := run_itT (run_bret hw) rfl
            refine y_call ?_
            refine y_cons ?_
            refine y_var rfl ?_
            refine y_nil ?_
            refine ⟨([r2] ++ amb), _, _, _, rfl, z, (Dq.int _), ?_⟩
            refine run_mono3 hw (fun t4 hw v H Ho e z d5 => ?_)
            replace d_due_ := LV.mo d_due_ e
            replace d_found_ := LV.mo d_found_ e
            replace d_row_ := D.mo d_row_ e
            have es7 := (Same.refl _).trans e
            first | obtain rfl := d_bool d5 | cases d_bool d5
            exact (run_ret hw) _ _ _ es7 z (Dq.bl _)
          replace d_due_ := LV.mo d_due_ e
          replace d_found_ := LV.mo d_found_ e
          replace d_row_ := D.mo d_row_ e
          have es12 := (Same.refl _).trans e
          replace z : Zs ([(p8, HO.lst ws9)] ++ amb) H Ho := z
          have o13 := OL.mk (p := p8) d10
          refine y_nil ?_
          refine y_all (OL.lv o13 mg0) z ?_
          refine ⟨_, rfl, ?_⟩
          replace z : Zs amb _ _ := z.go [[(p8, HO.lst ws9)]] amb []
          exact (run_ret hw) _ _ ⟨_, es12, z, rfl⟩
        rintro t14 v H ⟨Ho, e, z, rfl⟩ hw
        replace d_due_ := LV.mo d_due_ e
        replace d_found_ := LV.mo d_found_ e
        replace d_row_ := D.mo d_row_ e
        have es17 := (Same.refl _).trans e
        refine y_cases hw (fun hb hw => ?_) (fun hb hw => ?_)
        · refine y_ret ?_
          refine y_c ?_
          exact (ctl_rt (run_ret hw)) _ _ _ (es1.trans es17) z (Dq.bl _)
        · refine y_nxS ?_
          exact ctl_nx (run_ret hw) _ _ _ es17 ⟨_, rfl, z⟩
      intro s σ H Ho e hI hw
      obtain ⟨y_row_, rfl, z⟩ := hI
      replace d_due_ := LV.mo d_due_ e
      replace d_found_ := LV.mo d_found_ e
      have es18 := (Same.refl _).trans e
      refine y_ret ?_
      refine y_op ?_
      refine y_var rfl ?_
      refine y_var rfl ?_
      refine y_eqD (LV.dp (LV.sub d_found_ mgE) z) (LV.dp (LV.sub d_due_ mgE) z) hw.1 ?_
      replace hw := (run_gd hw).2
      exact (run_ret hw) _ _ _ es18 z (Dq.bl _)
def sp_law_parts (K : PySem.W.Frag) (cl : Nat → Addr) : Sp := fun vs H Q E => ∃ (amb : Grp) (Ho : Hp) (v0 : V) (x0 : (List (P3 Int Str Int))) (v1 : V) (x1 : (List (P4 Int Int Int Int))) (v2 : V) (x2 : Int), vs = [v0, v1, v2] ∧ Zs amb H Ho ∧ LV K amb Ho v0 x0 ∧ LV K amb Ho v1 x1 ∧ Z.D K Ho v2 x2 ∧ (m_law_parts x0 x1 x2).run fun r => ∀ v H' Ho', Same Ho Ho' → Zs amb H' Ho' → Z.D K Ho' v r → Q v H'
abbrev s_law_parts : Stmt := topS 24
theorem sc_law_parts : FnScope ["web", "told", "cut", "many", "there", "hand", "early", "note", "late", "k", "other", "m"] ["web", "told", "cut"] (defScope s_law_parts) := ⟨rfl, rfl, rfl, by decide +kernel, rfl, by decide +kernel, by decide +kernel⟩
theorem ok_law_parts {f : Addr} {fd : FuncData} (F : Fun K "_law_parts" "_law_parts" s_law_parts f fd) (m_range : mg "range" = none) (m_len : mg "len" = none) :
    FnOk P w K mg base CX0 1 f fd ["web", "told", "cut"] (sp_law_parts K cl) := by
  refine F.ok sc_law_parts (fun vs H Q E h => ?_) (fun cdv A outer s H vs Q E hr h => ?_)
  · obtain ⟨amb, Ho, v_web_, web_, v_told_, told_, v_cut_, cut_, rfl, _⟩ := h
    rfl
  · obtain ⟨amb, Ho, v_web_, web_, v_told_, told_, v_cut_, cut_, rfl, z, d_web_, d_told_, d_cut_, hw⟩ := h
    refine ⟨_, pss_cons (ps_set (i := 3) sc_law_parts.nd rfl (Or.inr rfl) (pe_lc (own := [("hand", 5)]) rfl sc_law_parts.nd (pi_range1 (by rfl) m_range (pa_cons (pe_int) (pa_nil))) (blkOk_by (N := ["web", "told", "cut", "many", "there", "hand", "early", "note", "late", "k", "other", "m"]) (sc := defScope s_law_parts) (by decide +kernel)) (fun _ _ _ _ _ => pg_name (i := 5) sc_law_parts.nd rfl (Or.inr rfl)) (fun _ _ _ _ _ => pts_nil) (fun _ _ _ _ _ => pe_callB (zlen (K := K) rfl) (by rfl) m_len (by decide +kernel) (pa_cons (pe_lc (own := [("there", 4)]) rfl sc_law_parts.nd (zpi_list (K := K) rfl (pe_slice (zsl_list (K := K) rfl) (pv 0) po_none (po_some (pv 2)))) (blkOk_by (N := ["web", "told", "cut", "many", "there", "hand", "early", "note", "late", "k", "other", "m"]) (sc := ({ kind := PySem.ScopeKind.function, names := [ (PySem.Str.ofString ".0", PySem.NameKind.local), (PySem.Str.ofString "hand", PySem.NameKind.cell), (PySem.Str.ofString "len", PySem.NameKind.globalImplicit), (PySem.Str.ofString "cut", PySem.NameKind.cell), (PySem.Str.ofString "web", PySem.NameKind.cell)], isGenerator := false, isCoroutine := false, more := [] : PySem.Scope })) (by decide +kernel)) (fun _ _ _ _ _ => pg_name (i := 4) sc_law_parts.nd rfl (Or.inl rfl)) (fun _ _ _ _ _ => pts_one (pt_cmpR (op_eq) (pe_ix (zix_tup (K := K) rfl) (pv 4) (pe_int) (fun _ _ => rfl)) (pv 5) (nomark _))) (fun _ _ _ _ _ => pe_int)) (pa_nil))))) (pss_cons (ps_setLc (i := 6) (own := [("note", 7)]) rfl sc_law_parts.nd rfl rfl (sw_true rfl rfl rfl (by decide +kernel)) (zpi_list (K := K) rfl (pv 1)) (blkOk_by (N := ["web", "told", "cut", "many", "there", "hand", "early", "note", "late", "k", "other", "m"]) (sc := defScope s_law_parts) (by decide +kernel)) (fun _ _ _ _ _ => pg_name (i := 7) sc_law_parts.nd rfl (Or.inl rfl)) (fun _ _ _ _ _ => pts_one (pt_cmpR (op_lt) (pe_ix (zix_tup (K := K) rfl) (pv 7) (pe_int) (fun _ _ => rfl)) (pe_ix (zix_list (K := K) rfl) (pv 3) (pe_ix (zix_tup (K := K) rfl) (pv 7) (pe_int) (fun _ _ => rfl)) (fun _ _ => rfl)) (nomark _))) (fun _ _ _ _ _ => pv 7)) (pss_cons (ps_set (i := 8) sc_law_parts.nd rfl (Or.inl rfl) (pe_lst (pa_nil))) (pss_cons (ps_for PassesOwn.never rfl (zpi_list (K := K) rfl (pv 1)) (zpg_tup (K := K) (n := 4) rfl rfl (pgs_cons (pg_name (i := 5) sc_law_parts.nd rfl (Or.inl rfl)) (pgs_cons (pg_name (i := 9) sc_law_parts.nd rfl (Or.inl rfl)) (pgs_cons (pg_name (i := 10) sc_law_parts.nd rfl (Or.inl rfl)) (pgs_cons (pg_name (i := 11) sc_law_parts.nd rfl (Or.inl rfl)) (pgs_nil)))))) (pss_cons (ps_if (PW.pt (pw_and (pt_cmpR (op_ge) (pv 9) (pe_ix (zix_list (K := K) rfl) (pv 3) (pv 5) (fun _ _ => rfl)) (nomark _)) (pw_and1 (pt_cmpR (op_ge) (pv 11) (pe_ix (zix_list (K := K) rfl) (pv 3) (pv 10) (fun _ _ => rfl)) (nomark _))))) (pss_cons (ps_expr (pe_bm PySem.F.plainAttrs_list PySem.F.slot_list_append PySem.F.type_list_append mt_append (pv 8) (pa_cons (pe_tup (pa_cons (pv 5) (pa_cons (pe_op op_sub (pv 9) (pe_ix (zix_list (K := K) rfl) (pv 3) (pv 5) (fun _ _ => rfl))) (pa_cons (pv 10) (pa_cons (pe_op op_sub (pv 11) (pe_ix (zix_list (K := K) rfl) (pv 3) (pv 10) (fun _ _ => rfl))) (pa_nil)))))) (pa_nil)))) (pss_nil)) (pss_nil)) (pss_nil))) (pss_cons (ps_ret (pe_lst (pa_cons (pv 6) (pa_cons (pv 8) (pa_nil))))) (pss_nil))))), ?_⟩
    obtain rfl := d_int d_cut_
    refine l_asg (fun v => [_, _, _, some v, _, _, _, _, _, _, _, _]) (fun _ => rfl) ?_
    refine y_lc ?_
    refine k_iR1 ?_
    refine y_cons ?_
    refine y_c ?_
    refine y_nil ?_
    refine k_srcR1 (K := K) (Ho := Ho) hw.1 (fun J T => ?_)
    replace hw := (run_gd hw).2
    refine y_lcG z mgN T hw (fun r1 hand_ v_hand_ H Ho N N' e z d_hand_ hw => ?_) (fun t19 H Ho e hw p16 ws17 z d18 => ?_)
    · replace z : Zs ([r1] ++ amb) H Ho := z
      replace d_told_ := LV.mo d_told_ e
      replace d_web_ := LV.mo d_web_ e
      have es2 := (Same.refl _).trans e
      obtain rfl := d_int d_hand_
      refine y_gname (σ' := [some v_web_, some v_told_, some (V.int cut_), none, none, some (V.int hand_), none, none, none, none, none, none]) rfl ?_
      refine ⟨rfl, ?_⟩
      refine y_yes (w_t ?_)
      replace hw := run_itT (run_bret hw) rfl
      refine y_cb ?_
      refine y_cons ?_
      refine y_lc ?_
      refine k_iList ?_
      refine y_sl ?_
      refine y_var rfl ?_
      refine y_noPart ?_
      refine y_part ?_
      refine y_var rfl ?_
      refine ⟨_, rfl, ?_⟩
      refine y_slL (LV.sub d_web_ (mgS mgE)) z (fun H p3 ws4 z d5 => ?_)
      replace z : Zs ([(p3, HO.lst ws4)] ++ ([r1] ++ amb)) H Ho := z
      have o6 := OL.mk (p := p3) d5
      refine k_srcL (r0 := [(p3, HO.lst ws4)]) (OL.lv o6 mgE) mg0 z (fun J T => ?_)
      refine y_lcG z mg0 T hw (fun r7 there_ v_there_ H Ho N N' e z d_there_ hw => ?_) (fun t13 H Ho e hw p10 ws11 z d12 => ?_)
      · replace z : Zs ([r7] ++ ([(p3, HO.lst ws4)] ++ ([r1] ++ amb))) H Ho := z
        replace d_told_ := LV.mo d_told_ e
        replace d_web_ := LV.mo d_web_ e
        have es8 := (Same.refl _).trans e
        refine y_gname (σ' := [some v_web_, some v_told_, some (V.int cut_), none, some v_there_, some (V.int hand_), none, none, none, none, none, none]) rfl ?_
        refine ⟨rfl, ?_⟩
        refine y_test ?_
        refine y_op ?_
        refine y_op ?_
        refine y_var rfl ?_
        refine y_c ?_
        refine y_ixT (y := there_.a) d_there_ z ⟨_, rfl, rfl⟩ (fun w d9 => ?_)
        first | obtain rfl := d_int d9 | cases d_int d9
        refine y_var rfl ?_
        refine y_eqi ?_
        refine ⟨_, rfl, ?_⟩
        refine w_two (fun hb => ?_) (fun hb => ?_)
        · replace hw := run_itT (run_ret hw) hb
          refine y_c ?_
          exact (run_ret hw) _ _ _ (Same.refl _) z (Dq.int _)
        · exact run_itF (run_ret hw) hb _ _ (Same.refl _) z
      replace d_told_ := LV.mo d_told_ e
      replace d_web_ := LV.mo d_web_ e
      have es14 := (Same.refl _).trans e
      replace z : Zs ([(p10, HO.lst ws11)] ++ ([(p3, HO.lst ws4)] ++ ([r1] ++ amb))) H Ho := z
      have o15 := OL.mk (p := p10) d12
      refine y_nil ?_
      refine y_len (OL.lv o15 mg0) z ?_
      replace z : Zs ([r1] ++ amb) _ _ := z.go [[(p10, HO.lst ws11)], [(p3, HO.lst ws4)], [r1]] amb [2]
      exact (run_ret hw) _ _ _ es14 z (Dq.int _)
    replace d_told_ := LV.mo d_told_ e
    replace d_web_ := LV.mo d_web_ e
    have es20 := (Same.refl _).trans e
    replace z : Zs ([(p16, HO.lst ws17)] ++ amb) H Ho := z
    have o21 := OL.mk (p := p16) d18
    refine l_fr o21 z (fun Ho e z d22 => ?_)
    replace d_told_ := LV.mo d_told_ e
    have es23 := es20.trans e
    refine l_d (K := K) (Ho := Ho) hw d22 (fun many_ v_many_ d_many_ hw => ?_)
    refine l_asg (fun v => [_, _, _, _, _, _, some v, _, _, _, _, _]) (fun _ => rfl) ?_
    refine y_lc ?_
    refine k_iList ?_
    refine y_var rfl ?_
    refine k_srcL (r0 := amb) (LV.sub d_told_ mgE) mgE z (fun J T => ?_)
    refine y_lcG z mgE T hw (fun r24 note_ v_note_ H Ho N N' e z d_note_ hw => ?_) (fun t33 H Ho e hw p30 ws31 z d32 => ?_)
    · replace z : Zs ([r24] ++ amb) H Ho := z
      replace d_many_ := D.mo d_many_ e
      replace d_told_ := LV.mo d_told_ e
      have es25 := es23.trans e
      refine y_gname (σ' := [some v_web_, some v_told_, some (V.int cut_), some v_many_, none, none, none, some v_note_, none, none, none, none]) rfl ?_
      refine ⟨rfl, ?_⟩
      refine y_test ?_
      refine y_op ?_
      refine y_op ?_
      refine y_var rfl ?_
      refine y_c ?_
      refine y_ixT (y := note_.d) d_note_ z ⟨_, rfl, rfl⟩ (fun w d26 => ?_)
      first | obtain rfl := d_int d26 | cases d_int d26
      refine y_op ?_
      refine y_var rfl ?_
      refine y_op ?_
      refine y_var rfl ?_
      refine y_c ?_
      refine y_ixT (y := note_.c) d_note_ z ⟨_, rfl, rfl⟩ (fun w d27 => ?_)
      first | obtain rfl := d_int d27 | cases d_int d27
      refine y_ixL (LV.of d_many_) z hw (fun t28 w d29 hw => ?_)
      first | obtain rfl := d_int d29 | cases d_int d29
      refine y_i0 ?_
      refine ⟨_, rfl, ?_⟩
      refine w_two (fun hb => ?_) (fun hb => ?_)
      · replace hw := run_itT (run_ret hw) hb
        refine y_var rfl ?_
        exact (run_ret hw) _ _ _ (Same.refl _) z d_note_
      · exact run_itF (run_ret hw) hb _ _ (Same.refl _) z
    replace d_many_ := D.mo d_many_ e
    replace d_told_ := LV.mo d_told_ e
    have es34 := es23.trans e
    replace z : Zs ([(p30, HO.lst ws31)] ++ amb) H Ho := z
    have o35 := OL.mk (p := p30) d32
    refine l_fr o35 z (fun Ho e z d36 => ?_)
    replace d_many_ := D.mo d_many_ e
    replace d_told_ := LV.mo d_told_ e
    have es37 := es34.trans e
    refine l_d (K := K) (Ho := Ho) hw d36 (fun early_ v_early_ d_early_ hw => ?_)
    refine l_asg (fun v => [_, _, _, _, _, _, _, _, some v, _, _, _]) (fun _ => rfl) ?_
    refine k_lst ?_
    refine y_nil ?_
    refine k_lstk (K := K) (xs := ([] : (List (P4 Int Int Int Int)))) z DqAll.nil (by show 0 ≤ sizeLine; decide) (fun H p38 ws39 z d40 => ?_)
    replace z : Zs ([(p38, HO.lst ws39)] ++ amb) H Ho := z
    have o41 := OL.mk (p := p38) d40
    refine l_o hw z o41 (fun late_ v_late_ g_late_ z d_late_ hw => ?_)
    refine y_for ?_
    refine k_iList ?_
    refine y_var rfl ?_
    refine k_srcL (r0 := amb) (LV.sub d_told_ mgE) (mgS mgE) z (fun J T => ?_)
    refine y_forL T hw (fun (s : (List (P4 Int Int Int Int))) (σ : L2.St) (H Ho : Hp) => ∃ (g_late_ : Grp) (y_hand_ : Option V) (y_k_ : Option V) (y_other_ : Option V) (y_m_ : Option V), σ = [some v_web_, some v_told_, some (V.int cut_), some v_many_, none, y_hand_, some v_early_, none, some v_late_, y_k_, y_other_, y_m_] ∧ Zs (g_late_ ++ amb) H Ho ∧ OL K Ho v_late_ s g_late_) ⟨_, _, _, _, _, rfl, z, d_late_⟩ ?_ ?_ ?_ ?_
    · intro s σ H Ho hI
      obtain ⟨g_late_, y_hand_, y_k_, y_other_, y_m_, rfl, z, d_late_⟩ := hI
      exact ⟨_, z, (mgS mgE)⟩
    · intro s σ H Ho H2 Ho2 hI e t
      obtain ⟨g_late_, y_hand_, y_k_, y_other_, y_m_, rfl, z, d_late_⟩ := hI
      exact ⟨_, _, _, _, _, rfl, t _ z, OL.mo d_late_ e⟩
    · intro a x s σ H Ho N e hI dx hw
      obtain ⟨late_, rfl⟩ : ∃ q, q = s := ⟨_, rfl⟩
      obtain ⟨g_late_, y_hand_, y_k_, y_other_, y_m_, rfl, z, d_late_⟩ := hI
      replace d_early_ := D.mo d_early_ e
      replace d_many_ := D.mo d_many_ e
      have es42 := es37.trans e
      obtain ⟨hand_, k_, other_, m_⟩ := a
      refine c_gt4 (fun v_hand_ v_k_ v_other_ v_m_ => [some v_web_, some v_told_, some (V.int cut_), some v_many_, none, some v_hand_, some v_early_, none, some v_late_, some v_k_, some v_other_, some v_m_]) (fun _ _ _ _ => rfl) dx z (fun v_hand_ v_k_ v_other_ v_m_ d_hand_ d_k_ d_other_ d_m_ => ?_)
      obtain rfl := d_int d_hand_
      obtain rfl := d_int d_k_
      obtain rfl := d_int d_other_
      obtain rfl := d_int d_m_
      refine y_ifS ?_
      refine y_and ?_
      refine y_test ?_
      refine y_op ?_
      refine y_var rfl ?_
      refine y_op ?_
      refine y_var rfl ?_
      refine y_var rfl ?_
      refine y_ixL (LV.of d_many_) z hw (fun t43 w d44 hw => ?_)
      first | obtain rfl := d_int d44 | cases d_int d44
      refine y_i0 ?_
      refine ⟨_, rfl, ?_⟩
      refine w_andJ hw (fun (s : Bool) (v : Bool) (H2 : Hp) => ∃ (Ho2 : Hp), Same Ho Ho2 ∧ Zs (g_late_ ++ amb) H2 Ho2 ∧ v = s) (fun hb hw => ?_) (fun hb hw => ?_) ?_
      · refine y_test ?_
        refine y_op ?_
        refine y_var rfl ?_
        refine y_op ?_
        refine y_var rfl ?_
        refine y_var rfl ?_
        refine y_ixL (LV.of d_many_) z hw (fun t45 w d46 hw => ?_)
        first | obtain rfl := d_int d46 | cases d_int d46
        refine y_i0 ?_
        refine ⟨_, rfl, ?_⟩
        exact (run_ret hw) _ _ ⟨_, (Same.refl _), z, rfl⟩
      · exact (run_ret hw) _ _ ⟨_, (Same.refl _), z, rfl⟩
      rintro t47 v H ⟨Ho, e, z, rfl⟩ hw
      replace d_early_ := D.mo d_early_ e
      replace d_late_ := OL.mo d_late_ e
      replace d_many_ := D.mo d_many_ e
      have es50 := (Same.refl _).trans e
      refine w_ifJ hw (fun (s : (List (P4 Int Int Int Int))) (σ : L2.St) (H : Hp) => ∃ Ho2, Same Ho Ho2 ∧ (fun (s : (List (P4 Int Int Int Int))) (σ : L2.St) (H Ho : Hp) => ∃ (g_late_ : Grp), σ = [some v_web_, some v_told_, some (V.int cut_), some v_many_, none, some (V.int hand_), some v_early_, none, some v_late_, some (V.int k_), some (V.int other_), some (V.int m_)] ∧ Zs (g_late_ ++ amb) H Ho ∧ OL K Ho v_late_ s g_late_) s σ H Ho2) (fun hb hw => ?_) (fun hb hw => ?_) ?_
      · refine y_drop ?_
        refine y_bm ?_
        refine y_var rfl ?_
        refine g_tyL (OL.lv d_late_ mg0) z ?_
        refine y_cons ?_
        refine k_tup ?_
        refine y_cons ?_
        refine y_var rfl ?_
        refine y_cons ?_
        refine y_op ?_
        refine y_var rfl ?_
        refine y_op ?_
        refine y_var rfl ?_
        refine y_var rfl ?_
        refine y_ixL (LV.of d_many_) z hw (fun t51 w d52 hw => ?_)
        first | obtain rfl := d_int d52 | cases d_int d52
        refine y_i0 ?_
        refine y_cons ?_
        refine y_var rfl ?_
        refine y_cons ?_
        refine y_op ?_
        refine y_var rfl ?_
        refine y_op ?_
        refine y_var rfl ?_
        refine y_var rfl ?_
        refine y_ixL (LV.of d_many_) z hw (fun t53 w d54 hw => ?_)
        first | obtain rfl := d_int d54 | cases d_int d54
        refine y_i0 ?_
        refine y_nil ?_
        refine k_tupk (K := K) (x := (⟨hand_, (k_ - t51), other_, (m_ - t53)⟩ : (P4 Int Int Int Int))) z (by show 4 ≤ sizeLine; decide) _ rfl (DqAll.cons (Dq.int _) (DqAll.cons (Dq.int _) (DqAll.cons (Dq.int _) (DqAll.cons (Dq.int _) DqAll.nil)))) (fun p H Ho e z d55 => ?_)
        replace d_early_ := D.mo d_early_ e
        replace d_late_ := OL.mo d_late_ e
        replace d_many_ := D.mo d_many_ e
        have es56 := (Same.refl _).trans e
        refine y_nil ?_
        refine g_app z d_late_ d55 hw (fun late_ g_late_ H z d_late_ hw => ?_)
        exact (run_ret hw) _ _ ⟨_, es56, ⟨_, rfl, z, d_late_⟩⟩
      · refine y_nxS ?_
        exact (run_ret hw) _ _ ⟨_, (Same.refl _), ⟨_, rfl, z, d_late_⟩⟩
      rintro late_ σ H ⟨Ho, e, g_late_, rfl, z, d_late_⟩ hw
      replace d_early_ := D.mo d_early_ e
      replace d_many_ := D.mo d_many_ e
      have es57 := es50.trans e
      exact (run_ret hw) _ _ _ es57 ⟨_, _, _, _, _, rfl, z, d_late_⟩
    intro s σ H Ho e hI hw
    obtain ⟨late_, rfl⟩ : ∃ q, q = s := ⟨_, rfl⟩
    obtain ⟨g_late_, y_hand_, y_k_, y_other_, y_m_, rfl, z, d_late_⟩ := hI
    replace d_early_ := D.mo d_early_ e
    have es58 := es37.trans e
    refine y_ret ?_
    refine k_lst ?_
    refine y_cons ?_
    refine y_var rfl ?_
    refine y_cons ?_
    refine y_var rfl ?_
    refine y_nil ?_
    refine l_fr d_late_ z (fun Ho e z d_late_ => ?_)
    replace d_early_ := D.mo d_early_ e
    have es59 := es58.trans e
    refine k_lstk (K := K) (xs := ([early_, late_] : (List (List (P4 Int Int Int Int))))) z (DqAll.cons d_early_ (DqAll.cons d_late_ DqAll.nil)) (by show 2 ≤ sizeLine; decide) (fun H p60 ws61 z d62 => ?_)
    replace z : Zs ([(p60, HO.lst ws61)] ++ amb) H Ho := z
    have o63 := OL.mk (p := p60) d62
    refine l_fr o63 z (fun Ho e z d64 => ?_)
    have es65 := es59.trans e
    exact (run_ret hw) _ _ _ es65 z d64
def sp_law (K : PySem.W.Frag) (cl : Nat → Addr) : Sp := fun vs H Q E => ∃ (amb : Grp) (Ho : Hp) (v0 : V) (x0 : (List Int)), vs = [v0] ∧ Zs amb H Ho ∧ LV K amb Ho v0 x0 ∧ (m_law x0).run fun r => ∀ v H' Ho', Same Ho Ho' → Zs amb H' Ho' → Z.D K Ho' v r → Q v H'
abbrev s_law : Stmt := topS 25
theorem sc_law : FnScope ["script", "spring", "web", "handed", "told", "again", "turned", "place", "cut", "early", "late"] ["script"] (defScope s_law) := ⟨rfl, rfl, rfl, by decide +kernel, rfl, by decide +kernel, by decide +kernel⟩
theorem ok_law {f : Addr} {fd : FuncData} (F : Fun K "law" "law" s_law f fd) {f_law_spring : Addr} {fd_law_spring : FuncData} (c_law_spring : Cal P w K mg base CX0 "_law_spring" ["script"] 1 (sp_law_spring K cl) f_law_spring fd_law_spring) {f_law_web : Addr} {fd_law_web : FuncData} (c_law_web : Cal P w K mg base CX0 "_law_web" ["spring", "most"] 2 (sp_law_web K cl) f_law_web fd_law_web) {f_notes : Addr} {fd_notes : FuncData} (c_notes : Cal P w K mg base CX0 "notes" ["web"] 4 (sp_notes K cl) f_notes fd_notes) {f_law_rows : Addr} {fd_law_rows : FuncData} (c_law_rows : Cal P w K mg base CX0 "_law_rows" ["found", "due"] 2 (sp_law_rows K cl) f_law_rows fd_law_rows) {f_law_free_order : Addr} {fd_law_free_order : FuncData} (c_law_free_order : Cal P w K mg base CX0 "_law_free_order" ["spring", "web"] 3 (sp_law_free_order K cl) f_law_free_order fd_law_free_order) {f_enough : Addr} {fd_enough : FuncData} (c_enough : Cal P w K mg base CX0 "enough" ["web", "some"] 3 (sp_enough K cl) f_enough fd_enough) {f_law_draw : Addr} {fd_law_draw : FuncData} (c_law_draw : Cal P w K mg base CX0 "_law_draw" ["spring", "many"] 1 (sp_law_draw K cl) f_law_draw fd_law_draw) {f_law_parts : Addr} {fd_law_parts : FuncData} (c_law_parts : Cal P w K mg base CX0 "_law_parts" ["web", "told", "cut"] 1 (sp_law_parts K cl) f_law_parts fd_law_parts) (m_list : mg "list" = none) (m_sorted : mg "sorted" = none) (m_set : mg "set" = none) (m_len : mg "len" = none) (m_min : mg "min" = none) (m_range : mg "range" = none) :
    FnOk P w K mg base CX0 5 f fd ["script"] (sp_law K cl) := by
  refine F.ok sc_law (fun vs H Q E h => ?_) (fun cdv A outer s H vs Q E hr h => ?_)
  · obtain ⟨amb, Ho, v_script_, script_, rfl, _⟩ := h
    rfl
  · obtain ⟨amb, Ho, v_script_, script_, rfl, z, d_script_, hw⟩ := h
    refine ⟨_, pss_cons (ps_set (i := 1) sc_law.nd rfl (Or.inl rfl) (pe_call c_law_spring.ok (hr.mono (by decide)) (by rfl) c_law_spring.g c_law_spring.kp c_law_spring.b .nil pass0 (pa_cons (pv 0) (pa_nil)))) (pss_cons (ps_set (i := 2) sc_law.nd rfl (Or.inr rfl) (pe_call c_law_web.ok (hr.mono (by decide)) (by rfl) c_law_web.g c_law_web.kp c_law_web.b .nil pass0 (pa_cons (pv 1) (pa_cons (pe_int) (pa_nil))))) (pss_cons (ps_set (i := 3) sc_law.nd rfl (Or.inl rfl) (pe_callTy (zlist (K := K) rfl) (by rfl) m_list (by decide +kernel) (pa_cons (pv 2) (pa_nil)))) (pss_cons (ps_set (i := 4) sc_law.nd rfl (Or.inl rfl) (pe_call c_notes.ok (hr.mono (by decide)) (by rfl) c_notes.g c_notes.kp c_notes.b .nil pass0 (pa_cons (pv 3) (pa_nil)))) (pss_cons (ps_if (PW.pt (pw_or (pt_not (pt_val (pe_call c_law_rows.ok (hr.mono (by decide)) (by rfl) c_law_rows.g c_law_rows.kp c_law_rows.b .nil pass0 (pa_cons (pv 4) (pa_cons (Zb.pe_srtSetB rfl (room65 hr) (by rfl) m_sorted (by rfl) m_set (pv 4)) (pa_nil)))))) (pw_or1 (pt_cmpR (zop_neD (K := K) rfl hr.units) (pv 3) (pv 2) (nomark _))))) (pss_cons (ps_ret (pe_bl)) (pss_nil)) (pss_nil)) (pss_cons (ps_for PassesOwn.never rfl (pi_range1 (by rfl) m_range (pa_cons (pe_op op_add (pe_int) (pe_callB (call_min2 rfl) (by rfl) m_min (by decide +kernel) (pa_cons (pe_callB (zlen (K := K) rfl) (by rfl) m_len (by decide +kernel) (pa_cons (pv 0) (pa_nil))) (pa_cons (pe_int) (pa_nil))))) (pa_nil))) (pg_name (i := 5) sc_law.nd rfl (Or.inl rfl)) (pss_cons (ps_setLc (i := 6) (own := [("place", 7)]) rfl sc_law.nd rfl rfl (sw_true rfl rfl rfl (by decide +kernel)) (zpi_list (K := K) rfl (pe_call c_law_free_order.ok (hr.mono (by decide)) (by rfl) c_law_free_order.g c_law_free_order.kp c_law_free_order.b .nil pass0 (pa_cons (pv 1) (pa_cons (pv 2) (pa_nil))))) (blkOk_by (N := ["script", "spring", "web", "handed", "told", "again", "turned", "place", "cut", "early", "late"]) (sc := defScope s_law) (by decide +kernel)) (fun _ _ _ _ _ => pg_name (i := 7) sc_law.nd rfl (Or.inl rfl)) (fun _ _ _ _ _ => pts_nil) (fun _ _ _ _ _ => pe_ix (zix_list (K := K) rfl) (pv 2) (pv 7) (fun _ _ => rfl))) (pss_cons (ps_if (PW.pt (pw_or (pt_not (pt_val (pe_call c_law_rows.ok (hr.mono (by decide)) (by rfl) c_law_rows.g c_law_rows.kp c_law_rows.b .nil pass0 (pa_cons (pe_call c_notes.ok (hr.mono (by decide)) (by rfl) c_notes.g c_notes.kp c_notes.b .nil pass0 (pa_cons (pe_callTy (zlist (K := K) rfl) (by rfl) m_list (by decide +kernel) (pa_cons (pv 6) (pa_nil))) (pa_nil))) (pa_cons (pv 4) (pa_nil)))))) (pw_or1 (pt_cmpR (op_notB) (pe_call c_enough.ok (hr.mono (by decide)) (by rfl) c_enough.g c_enough.kp c_enough.b .nil pass0 (pa_cons (pe_callTy (zlist (K := K) rfl) (by rfl) m_list (by decide +kernel) (pa_cons (pv 6) (pa_nil))) (pa_cons (pe_callTy (zlist (K := K) rfl) (by rfl) m_list (by decide +kernel) (pa_cons (pv 4) (pa_nil))) (pa_nil)))) (pe_bl) (nomark _))))) (pss_cons (ps_ret (pe_bl)) (pss_nil)) (pss_nil)) (pss_cons (ps_set (i := 8) sc_law.nd rfl (Or.inl rfl) (pe_call c_law_draw.ok (hr.mono (by decide)) (by rfl) c_law_draw.g c_law_draw.kp c_law_draw.b .nil pass0 (pa_cons (pv 1) (pa_cons (pe_op op_add (pe_callB (zlen (K := K) rfl) (by rfl) m_len (by decide +kernel) (pa_cons (pv 2) (pa_nil))) (pe_int)) (pa_nil))))) (pss_cons (ps_asg (pe_call c_law_parts.ok (hr.mono (by decide)) (by rfl) c_law_parts.g c_law_parts.kp c_law_parts.b .nil pass0 (pa_cons (pv 2) (pa_cons (pv 4) (pa_cons (pv 8) (pa_nil))))) (zpg_unl (K := K) (n := 2) rfl rfl (pgs_cons (pg_name (i := 9) sc_law.nd rfl (Or.inl rfl)) (pgs_cons (pg_name (i := 10) sc_law.nd rfl (Or.inl rfl)) (pgs_nil))))) (pss_cons (ps_if (PW.pt (pw_or (pt_not (pt_val (pe_call c_law_rows.ok (hr.mono (by decide)) (by rfl) c_law_rows.g c_law_rows.kp c_law_rows.b .nil pass0 (pa_cons (pe_call c_notes.ok (hr.mono (by decide)) (by rfl) c_notes.g c_notes.kp c_notes.b .nil pass0 (pa_cons (pe_slice (zsl_list (K := K) rfl) (pv 2) po_none (po_some (pv 8))) (pa_nil))) (pa_cons (pv 9) (pa_nil)))))) (pw_or1 (pt_not (pt_val (pe_call c_law_rows.ok (hr.mono (by decide)) (by rfl) c_law_rows.g c_law_rows.kp c_law_rows.b .nil pass0 (pa_cons (pe_call c_notes.ok (hr.mono (by decide)) (by rfl) c_notes.g c_notes.kp c_notes.b .nil pass0 (pa_cons (pe_slice (zsl_list (K := K) rfl) (pv 2) (po_some (pv 8)) po_none) (pa_nil))) (pa_cons (pv 10) (pa_nil))))))))) (pss_cons (ps_ret (pe_bl)) (pss_nil)) (pss_nil)) (pss_nil))))))) (pss_cons (ps_ret (pe_bl)) (pss_nil))))))), ?_⟩
    refine l_asg (fun v => [_, some v, _, _, _, _, _, _, _, _, _]) (fun _ => rfl) ?_
    refine y_call ?_
    refine y_cons ?_
    refine y_var rfl ?_
    refine y_nil ?_
    refine ⟨amb, _, _, _, rfl, z, (LV.sub d_script_ mgE), ?_⟩
    refine run_mono3 hw (fun t1 hw v g3 H Ho e z d2 => ?_)
    replace d_script_ := LV.mo d_script_ e
    have es4 := (Same.refl _).trans e
    refine h_o hw z d2 (fun spring_ v_spring_ g_spring_ z d_spring_ hw => ?_)
    refine l_asg (fun v => [_, _, some v, _, _, _, _, _, _, _, _]) (fun _ => rfl) ?_
    refine y_call ?_
    refine y_cons ?_
    refine y_var rfl ?_
    refine y_cons ?_
    refine y_c ?_
    refine y_nil ?_
    refine ⟨amb, _, _, _, _, _, _, rfl, z, d_spring_, (Dq.int _), ?_⟩
    refine run_mono2 hw (fun t5 spring_ hw v g_spring_ H Ho e z d6 d_spring_ => ?_)
    replace d6 : Z.D K Ho v t5 := d6
    replace d_spring_ : OH K Ho v_spring_ spring_ g_spring_ := d_spring_
    replace d_script_ := LV.mo d_script_ e
    have es8 := es4.trans e
    refine l_d (K := K) (Ho := Ho) hw d6 (fun web_ v_web_ d_web_ hw => ?_)
    refine l_asg (fun v => [_, _, _, some v, _, _, _, _, _, _, _]) (fun _ => rfl) ?_
    refine y_cb ?_
    refine y_cons ?_
    refine y_var rfl ?_
    refine y_nil ?_
    refine y_list (LV.of d_web_) z (fun H p9 ws10 z d11 => ?_)
    replace z : Zs ([(p9, HO.lst ws10)] ++ (g_spring_ ++ amb)) H Ho := z
    have o12 := OL.mk (p := p9) d11
    refine l_fr o12 z (fun Ho e z d13 => ?_)
    replace d_script_ := LV.mo d_script_ e
    replace d_spring_ := OH.mo d_spring_ e
    replace d_web_ := D.mo d_web_ e
    have es14 := es8.trans e
    refine l_d (K := K) (Ho := Ho) hw d13 (fun handed_ v_handed_ d_handed_ hw => ?_)
    refine l_asg (fun v => [_, _, _, _, some v, _, _, _, _, _, _]) (fun _ => rfl) ?_
    refine y_call ?_
    refine y_cons ?_
    refine y_var rfl ?_
    refine y_nil ?_
    refine ⟨(g_spring_ ++ amb), _, _, _, rfl, z, (LV.of d_handed_), ?_⟩
    refine run_mono3 hw (fun t15 hw v H Ho e z d16 => ?_)
    replace d_handed_ := D.mo d_handed_ e
    replace d_script_ := LV.mo d_script_ e
    replace d_spring_ := OH.mo d_spring_ e
    replace d_web_ := D.mo d_web_ e
    have es18 := es14.trans e
    refine l_d (K := K) (Ho := Ho) hw d16 (fun told_ v_told_ d_told_ hw => ?_)
    refine y_ifS ?_
    refine y_or ?_
    refine y_not ?_
    refine y_tB ?_
    refine y_call ?_
    refine y_cons ?_
    refine y_var rfl ?_
    refine y_cons ?_
    refine k_srtSet ?_
    refine y_var rfl ?_
    refine y_srtSet (α := (P4 Int Int Int Int)) (LV.of d_told_) z hw.1 (fun H p19 ws20 z d21 => ?_)
    replace hw := (run_gd hw).2
    replace z : Zs ([(p19, HO.lst ws20)] ++ (g_spring_ ++ amb)) H Ho := z
    have o22 := OL.mk (p := p19) d21
    refine y_nil ?_
    refine ⟨([(p19, HO.lst ws20)] ++ (g_spring_ ++ amb)), _, _, _, _, _, rfl, z, (LV.of d_told_), (OL.lv o22 mg0), ?_⟩
    refine run_mono3 hw (fun t23 hw v H Ho e z d24 => ?_)
    replace d_handed_ := D.mo d_handed_ e
    replace d_script_ := LV.mo d_script_ e
    replace d_spring_ := OH.mo d_spring_ e
    replace d_told_ := D.mo d_told_ e
    replace d_web_ := D.mo d_web_ e
    have es26 := es18.trans e
    first | obtain rfl := d_bool d24 | cases d_bool d24
    refine ⟨_, rfl, ?_⟩
    refine w_orJ hw (fun (s : Bool) (v : Bool) (H2 : Hp) => ∃ (Ho2 : Hp), Same Ho Ho2 ∧ Zs ([(p19, HO.lst ws20)] ++ (g_spring_ ++ amb)) H2 Ho2 ∧ v = s) (fun hb hw => ?_) (fun hb hw => ?_) ?_
    · exact (run_ret hw) _ _ ⟨_, (Same.refl _), z, rfl⟩
    · refine y_test ?_
      refine y_op ?_
      refine y_var rfl ?_
      refine y_var rfl ?_
      refine y_neD (D.mo d_handed_ z.le) (D.mo d_web_ z.le) hw.1 ?_
      replace hw := (run_gd hw).2
      refine ⟨_, rfl, ?_⟩
      exact (run_ret hw) _ _ ⟨_, (Same.refl _), z, rfl⟩
    rintro t27 v H ⟨Ho, e, z, rfl⟩ hw
    replace d_script_ := LV.mo d_script_ e
    replace d_spring_ := OH.mo d_spring_ e
    replace d_told_ := D.mo d_told_ e
    replace d_web_ := D.mo d_web_ e
    have es30 := es26.trans e
    refine y_cases hw (fun hb hw => ?_) (fun hb hw => ?_)
    · replace z : Zs (g_spring_ ++ amb) _ _ := z.go [[(p19, HO.lst ws20)], g_spring_] amb [1]
      refine y_ret ?_
      refine y_c ?_
      replace z : Zs amb _ _ := z.go [g_spring_] amb []
      exact (run_ret hw) _ _ _ es30 z (Dq.bl _)
    · refine y_nxS ?_
      replace z : Zs (g_spring_ ++ amb) _ _ := z.go [[(p19, HO.lst ws20)], g_spring_] amb [1]
      refine y_for ?_
      refine k_iR1 ?_
      refine y_cons ?_
      refine y_op ?_
      refine y_c ?_
      refine y_cb ?_
      refine y_cons ?_
      refine y_cb ?_
      refine y_cons ?_
      refine y_var rfl ?_
      refine y_nil ?_
      refine y_len (LV.sub d_script_ (mgS mgE)) z ?_
      refine y_cons ?_
      refine y_c ?_
      refine y_nil ?_
      refine ⟨_, _, rfl, ?_⟩
      refine y_i0 ?_
      refine y_nil ?_
      refine k_srcR1 (K := K) (Ho := Ho) hw.1 (fun J T => ?_)
      replace hw := (run_gd hw).2
      refine y_forC T hw (fun (s : (H3 Int Int Int)) (σ : L2.St) (H Ho : Hp) => ∃ (g_spring_ : Grp) (y_again_ : Option V) (y_turned_ : Option V) (y_cut_ : Option V) (y_early_ : Option V) (y_late_ : Option V), σ = [some v_script_, some v_spring_, some v_web_, some v_handed_, some v_told_, y_again_, y_turned_, none, y_cut_, y_early_, y_late_] ∧ Zs (g_spring_ ++ amb) H Ho ∧ OH K Ho v_spring_ s g_spring_) ⟨_, _, _, _, _, _, rfl, z, d_spring_⟩ ?_ ?_ ?_ ?_
      · intro s σ H Ho hI
        obtain ⟨g_spring_, y_again_, y_turned_, y_cut_, y_early_, y_late_, rfl, z, d_spring_⟩ := hI
        exact ⟨_, z, mgN⟩
      · intro s σ H Ho H2 Ho2 hI e t
        obtain ⟨g_spring_, y_again_, y_turned_, y_cut_, y_early_, y_late_, rfl, z, d_spring_⟩ := hI
        exact ⟨_, _, _, _, _, _, rfl, t _ z, OH.mo d_spring_ e⟩
      · intro again_ v_again_ s σ H Ho N B e hI d_again_ hw
        obtain ⟨spring_, rfl⟩ : ∃ q, q = s := ⟨_, rfl⟩
        obtain ⟨g_spring_, y_again_, y_turned_, y_cut_, y_early_, y_late_, rfl, z, d_spring_⟩ := hI
        replace d_told_ := D.mo d_told_ e
        replace d_web_ := D.mo d_web_ e
        have es31 := es30.trans e
        obtain rfl := d_int d_again_
        refine y_gname (σ' := [some v_script_, some v_spring_, some v_web_, some v_handed_, some v_told_, some (V.int again_), y_turned_, none, y_cut_, y_early_, y_late_]) rfl ?_
        refine l_asg (fun v => [_, _, _, _, _, _, some v, _, _, _, _]) (fun _ => rfl) ?_
        refine y_lc ?_
        refine k_iList ?_
        refine y_call ?_
        refine y_cons ?_
        refine y_var rfl ?_
        refine y_cons ?_
        refine y_var rfl ?_
        refine y_nil ?_
        refine ⟨amb, _, _, _, _, _, _, rfl, z, d_spring_, (LV.of d_web_), ?_⟩
        refine run_mono2 hw (fun t32 spring_ hw v g_spring_ H Ho e z d33 d_spring_ => ?_)
        replace d33 : Z.D K Ho v t32 := d33
        replace d_spring_ : OH K Ho v_spring_ spring_ g_spring_ := d_spring_
        replace d_told_ := D.mo d_told_ e
        replace d_web_ := D.mo d_web_ e
        have es35 := (Same.refl _).trans e
        refine k_srcL (r0 := ([] : Grp)) (LV.of d33) mgN z (fun J T => ?_)
        refine y_lcG z mgN T hw (fun r36 place_ v_place_ H Ho N N' e z d_place_ hw => ?_) (fun t43 H Ho e hw p40 ws41 z d42 => ?_)
        · replace z : Zs ([r36] ++ (g_spring_ ++ amb)) H Ho := z
          replace d_spring_ := OH.mo d_spring_ e
          replace d_told_ := D.mo d_told_ e
          replace d_web_ := D.mo d_web_ e
          have es37 := es35.trans e
          obtain rfl := d_int d_place_
          refine y_gname (σ' := [some v_script_, some v_spring_, some v_web_, some v_handed_, some v_told_, some (V.int again_), y_turned_, some (V.int place_), y_cut_, y_early_, y_late_]) rfl ?_
          refine ⟨rfl, ?_⟩
          refine y_yes (w_t ?_)
          replace hw := run_itT (run_bret hw) rfl
          refine y_op ?_
          refine y_var rfl ?_
          refine y_var rfl ?_
          refine y_ixL (LV.of d_web_) z hw (fun t38 w d39 hw => ?_)
          exact (run_ret hw) _ _ _ (Same.refl _) z d39
        replace d_spring_ := OH.mo d_spring_ e
        replace d_told_ := D.mo d_told_ e
        replace d_web_ := D.mo d_web_ e
        have es44 := es35.trans e
        replace z : Zs ([(p40, HO.lst ws41)] ++ (g_spring_ ++ amb)) H Ho := z
        have o45 := OL.mk (p := p40) d42
        refine l_fr o45 z (fun Ho e z d46 => ?_)
        replace d_spring_ := OH.mo d_spring_ e
        replace d_told_ := D.mo d_told_ e
        replace d_web_ := D.mo d_web_ e
        have es47 := es44.trans e
        refine l_d (K := K) (Ho := Ho) hw d46 (fun turned_ v_turned_ d_turned_ hw => ?_)
        refine y_ifS ?_
        refine y_or ?_
        refine y_not ?_
        refine y_tB ?_
        refine y_call ?_
        refine y_cons ?_
        refine y_call ?_
        refine y_cons ?_
        refine y_cb ?_
        refine y_cons ?_
        refine y_var rfl ?_
        refine y_nil ?_
        refine y_list (LV.of d_turned_) z (fun H p48 ws49 z d50 => ?_)
        replace z : Zs ([(p48, HO.lst ws49)] ++ (g_spring_ ++ amb)) H Ho := z
        have o51 := OL.mk (p := p48) d50
        refine y_nil ?_
        refine ⟨([(p48, HO.lst ws49)] ++ (g_spring_ ++ amb)), _, _, _, rfl, z, (OL.lv o51 mg0), ?_⟩
        refine run_mono3 hw (fun t52 hw v H Ho e z d53 => ?_)
        replace d_spring_ := OH.mo d_spring_ e
        replace d_told_ := D.mo d_told_ e
        replace d_turned_ := D.mo d_turned_ e
        replace d_web_ := D.mo d_web_ e
        have es55 := es47.trans e
        refine y_cons ?_
        refine y_var rfl ?_
        refine y_nil ?_
        refine ⟨([(p48, HO.lst ws49)] ++ (g_spring_ ++ amb)), _, _, _, _, _, rfl, z, (LV.of d53), (LV.of d_told_), ?_⟩
        refine run_mono3 hw (fun t56 hw v H Ho e z d57 => ?_)
        replace d_spring_ := OH.mo d_spring_ e
        replace d_told_ := D.mo d_told_ e
        replace d_turned_ := D.mo d_turned_ e
        replace d_web_ := D.mo d_web_ e
        have es59 := es55.trans e
        first | obtain rfl := d_bool d57 | cases d_bool d57
        refine ⟨_, rfl, ?_⟩
        refine w_orJ hw (fun (s : Bool) (v : Bool) (H2 : Hp) => ∃ (Ho2 : Hp), Same Ho Ho2 ∧ Zs ([(p48, HO.lst ws49)] ++ (g_spring_ ++ amb)) H2 Ho2 ∧ v = s) (fun hb hw => ?_) (fun hb hw => ?_) ?_
        · exact (run_ret hw) _ _ ⟨_, (Same.refl _), z, rfl⟩
        · refine y_test ?_
          refine y_op ?_
          refine y_call ?_
          refine y_cons ?_
          refine y_cb ?_
          refine y_cons ?_
          refine y_var rfl ?_
          refine y_nil ?_
          refine y_list (LV.of d_turned_) z (fun H p60 ws61 z d62 => ?_)
          replace z : Zs ([(p60, HO.lst ws61)] ++ ([(p48, HO.lst ws49)] ++ (g_spring_ ++ amb))) H Ho := z
          have o63 := OL.mk (p := p60) d62
          refine y_cons ?_
          refine y_cb ?_
          refine y_cons ?_
          refine y_var rfl ?_
          refine y_nil ?_
          refine y_list (LV.of d_told_) z (fun H p64 ws65 z d66 => ?_)
          replace z : Zs ([(p64, HO.lst ws65)] ++ ([(p60, HO.lst ws61)] ++ ([(p48, HO.lst ws49)] ++ (g_spring_ ++ amb)))) H Ho := z
          have o67 := OL.mk (p := p64) d66
          refine y_nil ?_
          refine ⟨([(p64, HO.lst ws65)] ++ ([(p60, HO.lst ws61)] ++ ([(p48, HO.lst ws49)] ++ (g_spring_ ++ amb)))), _, _, _, _, _, rfl, z, (OL.lv o63 (mgS mg0)), (OL.lv o67 mg0), ?_⟩
          refine run_mono3 hw (fun t68 hw v H Ho e z d69 => ?_)
          replace d_spring_ := OH.mo d_spring_ e
          replace d_told_ := D.mo d_told_ e
          replace d_turned_ := D.mo d_turned_ e
          replace d_web_ := D.mo d_web_ e
          have es71 := (Same.refl _).trans e
          first | obtain rfl := d_bool d69 | cases d_bool d69
          refine y_c ?_
          refine y_notB ?_
          refine ⟨_, rfl, ?_⟩
          replace z : Zs ([(p48, HO.lst ws49)] ++ (g_spring_ ++ amb)) _ _ := z.go [[(p64, HO.lst ws65)], [(p60, HO.lst ws61)], [(p48, HO.lst ws49)], g_spring_] amb [2, 3]
          exact (run_ret hw) _ _ ⟨_, es71, z, rfl⟩
        rintro t72 v H ⟨Ho, e, z, rfl⟩ hw
        replace d_spring_ := OH.mo d_spring_ e
        replace d_told_ := D.mo d_told_ e
        replace d_turned_ := D.mo d_turned_ e
        replace d_web_ := D.mo d_web_ e
        have es75 := es59.trans e
        refine y_cases hw (fun hb hw => ?_) (fun hb hw => ?_)
        · replace z : Zs (g_spring_ ++ amb) _ _ := z.go [[(p48, HO.lst ws49)], g_spring_] amb [1]
          refine y_ret ?_
          refine y_c ?_
          replace z : Zs amb _ _ := z.go [g_spring_] amb []
          exact (ctl_rt (run_ret hw)) _ _ _ (es31.trans es75) z (Dq.bl _)
        · refine y_nxS ?_
          replace z : Zs (g_spring_ ++ amb) _ _ := z.go [[(p48, HO.lst ws49)], g_spring_] amb [1]
          refine l_asg (fun v => [_, _, _, _, _, _, _, _, some v, _, _]) (fun _ => rfl) ?_
          refine y_call ?_
          refine y_cons ?_
          refine y_var rfl ?_
          refine y_cons ?_
          refine y_op ?_
          refine y_cb ?_
          refine y_cons ?_
          refine y_var rfl ?_
          refine y_nil ?_
          refine y_len (LV.of d_web_) z ?_
          refine y_c ?_
          refine y_i0 ?_
          refine y_nil ?_
          refine ⟨amb, _, _, _, _, _, _, rfl, z, d_spring_, (Dq.int _), ?_⟩
          refine run_mono2 hw (fun t76 spring_ hw v g_spring_ H Ho e z d77 d_spring_ => ?_)
          replace d77 : Z.D K Ho v t76 := d77
          replace d_spring_ : OH K Ho v_spring_ spring_ g_spring_ := d_spring_
          replace d_told_ := D.mo d_told_ e
          replace d_turned_ := D.mo d_turned_ e
          replace d_web_ := D.mo d_web_ e
          have es79 := es75.trans e
          first | obtain rfl := d_int d77 | cases d_int d77
          refine l_i hw (fun cut_ hw => ?_)
          refine y_asgG ?_
          refine y_call ?_
          refine y_cons ?_
          refine y_var rfl ?_
          refine y_cons ?_
          refine y_var rfl ?_
          refine y_cons ?_
          refine y_var rfl ?_
          refine y_nil ?_
          refine ⟨(g_spring_ ++ amb), _, _, _, _, _, _, _, rfl, z, (LV.of d_web_), (LV.of d_told_), (Dq.int _), ?_⟩
          refine run_mono3 hw (fun t80 hw v H Ho e z d81 => ?_)
          replace d_spring_ := OH.mo d_spring_ e
          replace d_told_ := D.mo d_told_ e
          replace d_turned_ := D.mo d_turned_ e
          replace d_web_ := D.mo d_web_ e
          have es83 := es79.trans e
          refine c_unl2 hw (fun v_early_ v_late_ => [_, _, _, _, _, _, _, _, _, some v_early_, some v_late_]) (fun _ _ => rfl) (LV.of d81) z (fun early_ late_ v_early_ v_late_ d_early_ d_late_ hw => ?_)
          refine y_ifS ?_
          refine y_or ?_
          refine y_not ?_
          refine y_tB ?_
          refine y_call ?_
          refine y_cons ?_
          refine y_call ?_
          refine y_cons ?_
          refine y_sl ?_
          refine y_var rfl ?_
          refine y_noPart ?_
          refine y_part ?_
          refine y_var rfl ?_
          refine ⟨_, rfl, ?_⟩
          refine y_slL (LV.of d_web_) z (fun H p84 ws85 z d86 => ?_)
          replace z : Zs ([(p84, HO.lst ws85)] ++ (g_spring_ ++ amb)) H Ho := z
          have o87 := OL.mk (p := p84) d86
          refine y_nil ?_
          refine ⟨([(p84, HO.lst ws85)] ++ (g_spring_ ++ amb)), _, _, _, rfl, z, (OL.lv o87 mg0), ?_⟩
          refine run_mono3 hw (fun t88 hw v H Ho e z d89 => ?_)
          replace d_early_ := D.mo d_early_ e
          replace d_late_ := D.mo d_late_ e
          replace d_spring_ := OH.mo d_spring_ e
          replace d_told_ := D.mo d_told_ e
          replace d_turned_ := D.mo d_turned_ e
          replace d_web_ := D.mo d_web_ e
          have es91 := es83.trans e
          refine y_cons ?_
          refine y_var rfl ?_
          refine y_nil ?_
          refine ⟨([(p84, HO.lst ws85)] ++ (g_spring_ ++ amb)), _, _, _, _, _, rfl, z, (LV.of d89), (LV.of d_early_), ?_⟩
          refine run_mono3 hw (fun t92 hw v H Ho e z d93 => ?_)
          replace d_early_ := D.mo d_early_ e
          replace d_late_ := D.mo d_late_ e
          replace d_spring_ := OH.mo d_spring_ e
          replace d_told_ := D.mo d_told_ e
          replace d_turned_ := D.mo d_turned_ e
          replace d_web_ := D.mo d_web_ e
          have es95 := es91.trans e
          first | obtain rfl := d_bool d93 | cases d_bool d93
          refine ⟨_, rfl, ?_⟩
          refine w_orJ hw (fun (s : Bool) (v : Bool) (H2 : Hp) => ∃ (Ho2 : Hp), Same Ho Ho2 ∧ Zs ([(p84, HO.lst ws85)] ++ (g_spring_ ++ amb)) H2 Ho2 ∧ v = s) (fun hb hw => ?_) (fun hb hw => ?_) ?_
          · exact (run_ret hw) _ _ ⟨_, (Same.refl _), z, rfl⟩
          · refine y_not ?_
            refine y_tB ?_
            refine y_call ?_
            refine y_cons ?_
            refine y_call ?_
            refine y_cons ?_
            refine y_sl ?_
            refine y_var rfl ?_
            refine y_part ?_
            refine y_var rfl ?_
            refine ⟨_, rfl, ?_⟩
            refine y_noPart ?_
            refine y_slL (LV.of d_web_) z (fun H p96 ws97 z d98 => ?_)
            replace z : Zs ([(p96, HO.lst ws97)] ++ ([(p84, HO.lst ws85)] ++ (g_spring_ ++ amb))) H Ho := z
            have o99 := OL.mk (p := p96) d98
            refine y_nil ?_
            refine ⟨([(p96, HO.lst ws97)] ++ ([(p84, HO.lst ws85)] ++ (g_spring_ ++ amb))), _, _, _, rfl, z, (OL.lv o99 mg0), ?_⟩
            refine run_mono3 hw (fun t100 hw v H Ho e z d101 => ?_)
            replace d_early_ := D.mo d_early_ e
            replace d_late_ := D.mo d_late_ e
            replace d_spring_ := OH.mo d_spring_ e
            replace d_told_ := D.mo d_told_ e
            replace d_turned_ := D.mo d_turned_ e
            replace d_web_ := D.mo d_web_ e
            have es103 := (Same.refl _).trans e
            refine y_cons ?_
            refine y_var rfl ?_
            refine y_nil ?_
            refine ⟨([(p96, HO.lst ws97)] ++ ([(p84, HO.lst ws85)] ++ (g_spring_ ++ amb))), _, _, _, _, _, rfl, z, (LV.of d101), (LV.of d_late_), ?_⟩
            refine run_mono3 hw (fun t104 hw v H Ho e z d105 => ?_)
            replace d_early_ := D.mo d_early_ e
            replace d_late_ := D.mo d_late_ e
            replace d_spring_ := OH.mo d_spring_ e
            replace d_told_ := D.mo d_told_ e
            replace d_turned_ := D.mo d_turned_ e
            replace d_web_ := D.mo d_web_ e
            have es107 := es103.trans e
            first | obtain rfl := d_bool d105 | cases d_bool d105
            refine ⟨_, rfl, ?_⟩
            replace z : Zs ([(p84, HO.lst ws85)] ++ (g_spring_ ++ amb)) _ _ := z.go [[(p96, HO.lst ws97)], [(p84, HO.lst ws85)], g_spring_] amb [1, 2]
            exact (run_ret hw) _ _ ⟨_, es107, z, rfl⟩
          rintro t108 v H ⟨Ho, e, z, rfl⟩ hw
          replace d_early_ := D.mo d_early_ e
          replace d_late_ := D.mo d_late_ e
          replace d_spring_ := OH.mo d_spring_ e
          replace d_told_ := D.mo d_told_ e
          replace d_turned_ := D.mo d_turned_ e
          replace d_web_ := D.mo d_web_ e
          have es111 := es95.trans e
          refine y_cases hw (fun hb hw => ?_) (fun hb hw => ?_)
          · replace z : Zs (g_spring_ ++ amb) _ _ := z.go [[(p84, HO.lst ws85)], g_spring_] amb [1]
            refine y_ret ?_
            refine y_c ?_
            replace z : Zs amb _ _ := z.go [g_spring_] amb []
            exact (ctl_rt (run_ret hw)) _ _ _ (es31.trans es111) z (Dq.bl _)
          · refine y_nxS ?_
            replace z : Zs (g_spring_ ++ amb) _ _ := z.go [[(p84, HO.lst ws85)], g_spring_] amb [1]
            exact ctl_nx (run_ret hw) _ _ _ es111 ⟨_, _, _, _, _, _, rfl, z, d_spring_⟩
      intro s σ H Ho e hI hw
      obtain ⟨spring_, rfl⟩ : ∃ q, q = s := ⟨_, rfl⟩
      obtain ⟨g_spring_, y_again_, y_turned_, y_cut_, y_early_, y_late_, rfl, z, d_spring_⟩ := hI
      have es112 := es30.trans e
      refine y_ret ?_
      refine y_c ?_
      replace z : Zs amb _ _ := z.go [g_spring_] amb []
      exact (run_ret hw) _ _ _ es112 z (Dq.bl _)
end
def spLaw (K : PySem.W.Frag) : Sp := fun vs H Q _ => ∃ (a : Addr) (ns : List Int), vs = [.ref a] ∧ SqL K H a (ns.map V.int) ∧ ns.length ≤ 63 ∧ ∀ H', Q (.bl true) H'
theorem all_mk {l : PySem.W.OpenLaw} {w : World} {K : PySem.W.Frag} {h : Heap} {mg : Str → Option Value} {fa : Addr} (X : K.In h) (G : h.Ns mainGlobals mg) (hfa : mg "law" = some (.ref fa))
    {f1 : Addr} {od1 an1 : Option Addr} {sl1 : Array (Option Value)} {oc1 kV1 dc1 pm1 cd1 ct1 : Value}
    (a1 : PySem.W.nsIn K mainGlobals "names" = some (some (.ref f1)))
    (l1 : K.lookup f1 = some ⟨oc1, od1, .func (PySem.W.fnOf "names" "names" (defArgs s_names) (defBody s_names) (defScope s_names) .none kV1 dc1 pm1 an1 cd1 ct1), sl1⟩)
    (c1 : PySem.W.codeIn K cd1 "names" = true) (k1 : PySem.W.keepIn K (.ref f1) = true)
    {f2 : Addr} {od2 an2 : Option Addr} {sl2 : Array (Option Value)} {oc2 kV2 dc2 pm2 cd2 ct2 : Value}
    (a2 : PySem.W.nsIn K mainGlobals "places_of" = some (some (.ref f2)))
    (l2 : K.lookup f2 = some ⟨oc2, od2, .func (PySem.W.fnOf "places_of" "places_of" (defArgs s_places_of) (defBody s_places_of) (defScope s_places_of) .none kV2 dc2 pm2 an2 cd2 ct2), sl2⟩)
    (c2 : PySem.W.codeIn K cd2 "places_of" = true) (k2 : PySem.W.keepIn K (.ref f2) = true)
    {f3 : Addr} {od3 an3 : Option Addr} {sl3 : Array (Option Value)} {oc3 kV3 dc3 pm3 cd3 ct3 : Value}
    (a3 : PySem.W.nsIn K mainGlobals "touches_meet" = some (some (.ref f3)))
    (l3 : K.lookup f3 = some ⟨oc3, od3, .func (PySem.W.fnOf "touches_meet" "touches_meet" (defArgs s_touches_meet) (defBody s_touches_meet) (defScope s_touches_meet) .none kV3 dc3 pm3 an3 cd3 ct3), sl3⟩)
    (c3 : PySem.W.codeIn K cd3 "touches_meet" = true) (k3 : PySem.W.keepIn K (.ref f3) = true)
    {f4 : Addr} {od4 an4 : Option Addr} {sl4 : Array (Option Value)} {oc4 kV4 dc4 pm4 cd4 ct4 : Value}
    (a4 : PySem.W.nsIn K mainGlobals "is_step" = some (some (.ref f4)))
    (l4 : K.lookup f4 = some ⟨oc4, od4, .func (PySem.W.fnOf "is_step" "is_step" (defArgs s_is_step) (defBody s_is_step) (defScope s_is_step) .none kV4 dc4 pm4 an4 cd4 ct4), sl4⟩)
    (c4 : PySem.W.codeIn K cd4 "is_step" = true) (k4 : PySem.W.keepIn K (.ref f4) = true)
    {f5 : Addr} {od5 an5 : Option Addr} {sl5 : Array (Option Value)} {oc5 kV5 dc5 pm5 cd5 ct5 : Value}
    (a5 : PySem.W.nsIn K mainGlobals "looked_back" = some (some (.ref f5)))
    (l5 : K.lookup f5 = some ⟨oc5, od5, .func (PySem.W.fnOf "looked_back" "looked_back" (defArgs s_looked_back) (defBody s_looked_back) (defScope s_looked_back) .none kV5 dc5 pm5 an5 cd5 ct5), sl5⟩)
    (c5 : PySem.W.codeIn K cd5 "looked_back" = true) (k5 : PySem.W.keepIn K (.ref f5) = true)
    {f6 : Addr} {od6 an6 : Option Addr} {sl6 : Array (Option Value)} {oc6 kV6 dc6 pm6 cd6 ct6 : Value}
    (a6 : PySem.W.nsIn K mainGlobals "notes" = some (some (.ref f6)))
    (l6 : K.lookup f6 = some ⟨oc6, od6, .func (PySem.W.fnOf "notes" "notes" (defArgs s_notes) (defBody s_notes) (defScope s_notes) .none kV6 dc6 pm6 an6 cd6 ct6), sl6⟩)
    (c6 : PySem.W.codeIn K cd6 "notes" = true) (k6 : PySem.W.keepIn K (.ref f6) = true)
    {f7 : Addr} {od7 an7 : Option Addr} {sl7 : Array (Option Value)} {oc7 kV7 dc7 pm7 cd7 ct7 : Value}
    (a7 : PySem.W.nsIn K mainGlobals "ends_of" = some (some (.ref f7)))
    (l7 : K.lookup f7 = some ⟨oc7, od7, .func (PySem.W.fnOf "ends_of" "ends_of" (defArgs s_ends_of) (defBody s_ends_of) (defScope s_ends_of) .none kV7 dc7 pm7 an7 cd7 ct7), sl7⟩)
    (c7 : PySem.W.codeIn K cd7 "ends_of" = true) (k7 : PySem.W.keepIn K (.ref f7) = true)
    {f8 : Addr} {od8 an8 : Option Addr} {sl8 : Array (Option Value)} {oc8 kV8 dc8 pm8 cd8 ct8 : Value}
    (a8 : PySem.W.nsIn K mainGlobals "known_by" = some (some (.ref f8)))
    (l8 : K.lookup f8 = some ⟨oc8, od8, .func (PySem.W.fnOf "known_by" "known_by" (defArgs s_known_by) (defBody s_known_by) (defScope s_known_by) .none kV8 dc8 pm8 an8 cd8 ct8), sl8⟩)
    (c8 : PySem.W.codeIn K cd8 "known_by" = true) (k8 : PySem.W.keepIn K (.ref f8) = true)
    {f9 : Addr} {od9 an9 : Option Addr} {sl9 : Array (Option Value)} {oc9 kV9 dc9 pm9 cd9 ct9 : Value}
    (a9 : PySem.W.nsIn K mainGlobals "enough" = some (some (.ref f9)))
    (l9 : K.lookup f9 = some ⟨oc9, od9, .func (PySem.W.fnOf "enough" "enough" (defArgs s_enough) (defBody s_enough) (defScope s_enough) .none kV9 dc9 pm9 an9 cd9 ct9), sl9⟩)
    (c9 : PySem.W.codeIn K cd9 "enough" = true) (k9 : PySem.W.keepIn K (.ref f9) = true)
    {f10 : Addr} {od10 an10 : Option Addr} {sl10 : Array (Option Value)} {oc10 kV10 dc10 pm10 cd10 ct10 : Value}
    (a10 : PySem.W.nsIn K mainGlobals "_law_spring" = some (some (.ref f10)))
    (l10 : K.lookup f10 = some ⟨oc10, od10, .func (PySem.W.fnOf "_law_spring" "_law_spring" (defArgs s_law_spring) (defBody s_law_spring) (defScope s_law_spring) .none kV10 dc10 pm10 an10 cd10 ct10), sl10⟩)
    (c10 : PySem.W.codeIn K cd10 "_law_spring" = true) (k10 : PySem.W.keepIn K (.ref f10) = true)
    {f11 : Addr} {od11 an11 : Option Addr} {sl11 : Array (Option Value)} {oc11 kV11 dc11 pm11 cd11 ct11 : Value}
    (a11 : PySem.W.nsIn K mainGlobals "_law_draw" = some (some (.ref f11)))
    (l11 : K.lookup f11 = some ⟨oc11, od11, .func (PySem.W.fnOf "_law_draw" "_law_draw" (defArgs s_law_draw) (defBody s_law_draw) (defScope s_law_draw) .none kV11 dc11 pm11 an11 cd11 ct11), sl11⟩)
    (c11 : PySem.W.codeIn K cd11 "_law_draw" = true) (k11 : PySem.W.keepIn K (.ref f11) = true)
    {f12 : Addr} {od12 an12 : Option Addr} {sl12 : Array (Option Value)} {oc12 kV12 dc12 pm12 cd12 ct12 : Value}
    (a12 : PySem.W.nsIn K mainGlobals "_law_web" = some (some (.ref f12)))
    (l12 : K.lookup f12 = some ⟨oc12, od12, .func (PySem.W.fnOf "_law_web" "_law_web" (defArgs s_law_web) (defBody s_law_web) (defScope s_law_web) .none kV12 dc12 pm12 an12 cd12 ct12), sl12⟩)
    (c12 : PySem.W.codeIn K cd12 "_law_web" = true) (k12 : PySem.W.keepIn K (.ref f12) = true)
    {f13 : Addr} {od13 an13 : Option Addr} {sl13 : Array (Option Value)} {oc13 kV13 dc13 pm13 cd13 ct13 : Value}
    (a13 : PySem.W.nsIn K mainGlobals "_law_meets" = some (some (.ref f13)))
    (l13 : K.lookup f13 = some ⟨oc13, od13, .func (PySem.W.fnOf "_law_meets" "_law_meets" (defArgs s_law_meets) (defBody s_law_meets) (defScope s_law_meets) .none kV13 dc13 pm13 an13 cd13 ct13), sl13⟩)
    (c13 : PySem.W.codeIn K cd13 "_law_meets" = true) (k13 : PySem.W.keepIn K (.ref f13) = true)
    {f14 : Addr} {od14 an14 : Option Addr} {sl14 : Array (Option Value)} {oc14 kV14 dc14 pm14 cd14 ct14 : Value}
    (a14 : PySem.W.nsIn K mainGlobals "_law_step" = some (some (.ref f14)))
    (l14 : K.lookup f14 = some ⟨oc14, od14, .func (PySem.W.fnOf "_law_step" "_law_step" (defArgs s_law_step) (defBody s_law_step) (defScope s_law_step) .none kV14 dc14 pm14 an14 cd14 ct14), sl14⟩)
    (c14 : PySem.W.codeIn K cd14 "_law_step" = true) (k14 : PySem.W.keepIn K (.ref f14) = true)
    {f15 : Addr} {od15 an15 : Option Addr} {sl15 : Array (Option Value)} {oc15 kV15 dc15 pm15 cd15 ct15 : Value}
    (a15 : PySem.W.nsIn K mainGlobals "_law_free_order" = some (some (.ref f15)))
    (l15 : K.lookup f15 = some ⟨oc15, od15, .func (PySem.W.fnOf "_law_free_order" "_law_free_order" (defArgs s_law_free_order) (defBody s_law_free_order) (defScope s_law_free_order) .none kV15 dc15 pm15 an15 cd15 ct15), sl15⟩)
    (c15 : PySem.W.codeIn K cd15 "_law_free_order" = true) (k15 : PySem.W.keepIn K (.ref f15) = true)
    {f16 : Addr} {od16 an16 : Option Addr} {sl16 : Array (Option Value)} {oc16 kV16 dc16 pm16 cd16 ct16 : Value}
    (a16 : PySem.W.nsIn K mainGlobals "_law_whole" = some (some (.ref f16)))
    (l16 : K.lookup f16 = some ⟨oc16, od16, .func (PySem.W.fnOf "_law_whole" "_law_whole" (defArgs s_law_whole) (defBody s_law_whole) (defScope s_law_whole) .none kV16 dc16 pm16 an16 cd16 ct16), sl16⟩)
    (c16 : PySem.W.codeIn K cd16 "_law_whole" = true) (k16 : PySem.W.keepIn K (.ref f16) = true)
    {f17 : Addr} {od17 an17 : Option Addr} {sl17 : Array (Option Value)} {oc17 kV17 dc17 pm17 cd17 ct17 : Value}
    (a17 : PySem.W.nsIn K mainGlobals "_law_rows" = some (some (.ref f17)))
    (l17 : K.lookup f17 = some ⟨oc17, od17, .func (PySem.W.fnOf "_law_rows" "_law_rows" (defArgs s_law_rows) (defBody s_law_rows) (defScope s_law_rows) .none kV17 dc17 pm17 an17 cd17 ct17), sl17⟩)
    (c17 : PySem.W.codeIn K cd17 "_law_rows" = true) (k17 : PySem.W.keepIn K (.ref f17) = true)
    {f18 : Addr} {od18 an18 : Option Addr} {sl18 : Array (Option Value)} {oc18 kV18 dc18 pm18 cd18 ct18 : Value}
    (a18 : PySem.W.nsIn K mainGlobals "_law_parts" = some (some (.ref f18)))
    (l18 : K.lookup f18 = some ⟨oc18, od18, .func (PySem.W.fnOf "_law_parts" "_law_parts" (defArgs s_law_parts) (defBody s_law_parts) (defScope s_law_parts) .none kV18 dc18 pm18 an18 cd18 ct18), sl18⟩)
    (c18 : PySem.W.codeIn K cd18 "_law_parts" = true) (k18 : PySem.W.keepIn K (.ref f18) = true)
    {f19 : Addr} {od19 an19 : Option Addr} {sl19 : Array (Option Value)} {oc19 kV19 dc19 pm19 cd19 ct19 : Value}
    (a19 : PySem.W.nsIn K mainGlobals "law" = some (some (.ref f19)))
    (l19 : K.lookup f19 = some ⟨oc19, od19, .func (PySem.W.fnOf "law" "law" (defArgs s_law) (defBody s_law) (defScope s_law) .none kV19 dc19 pm19 an19 cd19 ct19), sl19⟩)
    (c19 : PySem.W.codeIn K cd19 "law" = true) (k19 : PySem.W.keepIn K (.ref f19) = true)
    (z_len : PySem.W.nsIn K mainGlobals "len" = some none)
    (z_range : PySem.W.nsIn K mainGlobals "range" = some none)
    (z_zip : PySem.W.nsIn K mainGlobals "zip" = some none)
    (z_max : PySem.W.nsIn K mainGlobals "max" = some none)
    (z_sorted : PySem.W.nsIn K mainGlobals "sorted" = some none)
    (z_list : PySem.W.nsIn K mainGlobals "list" = some none)
    (z_abs : PySem.W.nsIn K mainGlobals "abs" = some none)
    (z_int : PySem.W.nsIn K mainGlobals "int" = some none)
    (z_isinstance : PySem.W.nsIn K mainGlobals "isinstance" = some none)
    (z_bool : PySem.W.nsIn K mainGlobals "bool" = some none)
    (z_tuple : PySem.W.nsIn K mainGlobals "tuple" = some none)
    (z_all : PySem.W.nsIn K mainGlobals "all" = some none)
    (z_set : PySem.W.nsIn K mainGlobals "set" = some none)
    (z_min : PySem.W.nsIn K mainGlobals "min" = some none)
    {tk_HANDS : Tok} (g_HANDS : PySem.W.nsIn K mainGlobals "HANDS" = some (some (.int 8 tk_HANDS))) :
    ∃ fd : FuncData, (∀ (s : Shared) (v : Value), BindsTo s fd ⟨[v], []⟩ [("script", v)]) ∧ ∀ base : Heap, K.In base → base.Ns mainGlobals mg → FnOk l.prog w K mg base CX0 5 fa fd ["script"] (spLaw K) := by
  have e := hfa.symm.trans (PySem.W.mg_of X G a19)
  cases e
  refine ⟨PySem.W.fnOf "law" "law" (defArgs s_law) (defBody s_law) (defScope s_law) .none kV19 dc19 pm19 an19 cd19 ct19, fun s v => .of_eq rfl, fun base _ _ => ?_⟩
  have F1 := fun_mk (st := s_names) l1 c1 k1
  have b1 := F1.binds (ps := ["web"]) fun _ _ _ _ _ _ us hl => match us, hl with | [_], _ => rfl
  have F2 := fun_mk (st := s_places_of) l2 c2 k2
  have b2 := F2.binds (ps := ["web"]) fun _ _ _ _ _ _ us hl => match us, hl with | [_], _ => rfl
  have F3 := fun_mk (st := s_touches_meet) l3 c3 k3
  have b3 := F3.binds (ps := ["one", "other"]) fun _ _ _ _ _ _ us hl => match us, hl with | [_, _], _ => rfl
  have F4 := fun_mk (st := s_is_step) l4 c4 k4
  have b4 := F4.binds (ps := ["web", "i", "j"]) fun _ _ _ _ _ _ us hl => match us, hl with | [_, _, _], _ => rfl
  have F5 := fun_mk (st := s_looked_back) l5 c5 k5
  have b5 := F5.binds (ps := ["web", "called", "table", "j"]) fun _ _ _ _ _ _ us hl => match us, hl with | [_, _, _, _], _ => rfl
  have F6 := fun_mk (st := s_notes) l6 c6 k6
  have b6 := F6.binds (ps := ["web"]) fun _ _ _ _ _ _ us hl => match us, hl with | [_], _ => rfl
  have F7 := fun_mk (st := s_ends_of) l7 c7 k7
  have b7 := F7.binds (ps := ["places", "note"]) fun _ _ _ _ _ _ us hl => match us, hl with | [_, _], _ => rfl
  have F8 := fun_mk (st := s_known_by) l8 c8 k8
  have b8 := F8.binds (ps := ["web", "ends"]) fun _ _ _ _ _ _ us hl => match us, hl with | [_, _], _ => rfl
  have F9 := fun_mk (st := s_enough) l9 c9 k9
  have b9 := F9.binds (ps := ["web", "some"]) fun _ _ _ _ _ _ us hl => match us, hl with | [_, _], _ => rfl
  have F10 := fun_mk (st := s_law_spring) l10 c10 k10
  have b10 := F10.binds (ps := ["script"]) fun _ _ _ _ _ _ us hl => match us, hl with | [_], _ => rfl
  have F11 := fun_mk (st := s_law_draw) l11 c11 k11
  have b11 := F11.binds (ps := ["spring", "many"]) fun _ _ _ _ _ _ us hl => match us, hl with | [_, _], _ => rfl
  have F12 := fun_mk (st := s_law_web) l12 c12 k12
  have b12 := F12.binds (ps := ["spring", "most"]) fun _ _ _ _ _ _ us hl => match us, hl with | [_, _], _ => rfl
  have F13 := fun_mk (st := s_law_meets) l13 c13 k13
  have b13 := F13.binds (ps := ["one", "other"]) fun _ _ _ _ _ _ us hl => match us, hl with | [_, _], _ => rfl
  have F14 := fun_mk (st := s_law_step) l14 c14 k14
  have b14 := F14.binds (ps := ["one", "other"]) fun _ _ _ _ _ _ us hl => match us, hl with | [_, _], _ => rfl
  have F15 := fun_mk (st := s_law_free_order) l15 c15 k15
  have b15 := F15.binds (ps := ["spring", "web"]) fun _ _ _ _ _ _ us hl => match us, hl with | [_, _], _ => rfl
  have F16 := fun_mk (st := s_law_whole) l16 c16 k16
  have b16 := F16.binds (ps := ["found"]) fun _ _ _ _ _ _ us hl => match us, hl with | [_], _ => rfl
  have F17 := fun_mk (st := s_law_rows) l17 c17 k17
  have b17 := F17.binds (ps := ["found", "due"]) fun _ _ _ _ _ _ us hl => match us, hl with | [_, _], _ => rfl
  have F18 := fun_mk (st := s_law_parts) l18 c18 k18
  have b18 := F18.binds (ps := ["web", "told", "cut"]) fun _ _ _ _ _ _ us hl => match us, hl with | [_, _, _], _ => rfl
  have F19 := fun_mk (st := s_law) l19 c19 k19
  have b19 := F19.binds (ps := ["script"]) fun _ _ _ _ _ _ us hl => match us, hl with | [_], _ => rfl
  have o1 := ok_names (cl := (fun _ => 0)) (P := l.prog) (w := w) (mg := mg) (base := base) F1 (PySem.W.mg_of X G g_HANDS)
  have c_names : Cal l.prog w K mg base CX0 "names" ["web"] 1 (sp_names K (fun _ => 0)) f1 _ := ⟨o1, PySem.W.mg_of X G a1, k1, b1⟩
  have o2 := ok_places_of (cl := (fun _ => 0)) (P := l.prog) (w := w) (mg := mg) (base := base) F2 c_names (PySem.W.mg_none_of X G z_len) (PySem.W.mg_none_of X G z_range)
  have c_places_of : Cal l.prog w K mg base CX0 "places_of" ["web"] 2 (sp_places_of K (fun _ => 0)) f2 _ := ⟨o2, PySem.W.mg_of X G a2, k2, b2⟩
  have o3 := ok_touches_meet (cl := (fun _ => 0)) (P := l.prog) (w := w) (mg := mg) (base := base) F3 
  have c_touches_meet : Cal l.prog w K mg base CX0 "touches_meet" ["one", "other"] 1 (sp_touches_meet K (fun _ => 0)) f3 _ := ⟨o3, PySem.W.mg_of X G a3, k3, b3⟩
  have o4 := ok_is_step (cl := (fun _ => 0)) (P := l.prog) (w := w) (mg := mg) (base := base) F4 c_touches_meet
  have c_is_step : Cal l.prog w K mg base CX0 "is_step" ["web", "i", "j"] 2 (sp_is_step K (fun _ => 0)) f4 _ := ⟨o4, PySem.W.mg_of X G a4, k4, b4⟩
  have o5 := ok_looked_back (cl := (fun _ => 0)) (P := l.prog) (w := w) (mg := mg) (base := base) F5 c_is_step (PySem.W.mg_none_of X G z_range) (PySem.W.mg_none_of X G z_zip) (PySem.W.mg_none_of X G z_max) (PySem.W.mg_of X G g_HANDS)
  have c_looked_back : Cal l.prog w K mg base CX0 "looked_back" ["web", "called", "table", "j"] 3 (sp_looked_back K (fun _ => 0)) f5 _ := ⟨o5, PySem.W.mg_of X G a5, k5, b5⟩
  have o6 := ok_notes (cl := (fun _ => 0)) (P := l.prog) (w := w) (mg := mg) (base := base) F6 c_names c_looked_back (PySem.W.mg_none_of X G z_len) (PySem.W.mg_none_of X G z_range) (PySem.W.mg_none_of X G z_sorted)
  have c_notes : Cal l.prog w K mg base CX0 "notes" ["web"] 4 (sp_notes K (fun _ => 0)) f6 _ := ⟨o6, PySem.W.mg_of X G a6, k6, b6⟩
  have o7 := ok_ends_of (cl := (fun _ => 0)) (P := l.prog) (w := w) (mg := mg) (base := base) F7 
  have c_ends_of : Cal l.prog w K mg base CX0 "ends_of" ["places", "note"] 1 (sp_ends_of K (fun _ => 0)) f7 _ := ⟨o7, PySem.W.mg_of X G a7, k7, b7⟩
  have o8 := ok_known_by (cl := (fun _ => 0)) (P := l.prog) (w := w) (mg := mg) (base := base) F8 c_names (PySem.W.mg_none_of X G z_len) (PySem.W.mg_none_of X G z_range) (PySem.W.mg_none_of X G z_list) (PySem.W.mg_none_of X G z_zip) (PySem.W.mg_none_of X G z_max)
  have c_known_by : Cal l.prog w K mg base CX0 "known_by" ["web", "ends"] 2 (sp_known_by K (fun _ => 0)) f8 _ := ⟨o8, PySem.W.mg_of X G a8, k8, b8⟩
  have o9 := ok_enough (cl := (fun _ => 0)) (P := l.prog) (w := w) (mg := mg) (base := base) F9 c_places_of c_known_by c_ends_of c_names c_touches_meet (PySem.W.mg_none_of X G z_len) (PySem.W.mg_none_of X G z_range)
  have c_enough : Cal l.prog w K mg base CX0 "enough" ["web", "some"] 3 (sp_enough K (fun _ => 0)) f9 _ := ⟨o9, PySem.W.mg_of X G a9, k9, b9⟩
  have o10 := ok_law_spring (cl := (fun _ => 0)) (P := l.prog) (w := w) (mg := mg) (base := base) F10 (PySem.W.mg_none_of X G z_abs)
  have c_law_spring : Cal l.prog w K mg base CX0 "_law_spring" ["script"] 1 (sp_law_spring K (fun _ => 0)) f10 _ := ⟨o10, PySem.W.mg_of X G a10, k10, b10⟩
  have o11 := ok_law_draw (cl := (fun _ => 0)) (P := l.prog) (w := w) (mg := mg) (base := base) F11 
  have c_law_draw : Cal l.prog w K mg base CX0 "_law_draw" ["spring", "many"] 1 (sp_law_draw K (fun _ => 0)) f11 _ := ⟨o11, PySem.W.mg_of X G a11, k11, b11⟩
  have o12 := ok_law_web (cl := (fun _ => 0)) (P := l.prog) (w := w) (mg := mg) (base := base) F12 c_law_draw (PySem.W.mg_none_of X G z_int) (PySem.W.mg_none_of X G z_range) (PySem.W.mg_none_of X G z_len)
  have c_law_web : Cal l.prog w K mg base CX0 "_law_web" ["spring", "most"] 2 (sp_law_web K (fun _ => 0)) f12 _ := ⟨o12, PySem.W.mg_of X G a12, k12, b12⟩
  have o13 := ok_law_meets (cl := (fun _ => 0)) (P := l.prog) (w := w) (mg := mg) (base := base) F13 
  have c_law_meets : Cal l.prog w K mg base CX0 "_law_meets" ["one", "other"] 1 (sp_law_meets K (fun _ => 0)) f13 _ := ⟨o13, PySem.W.mg_of X G a13, k13, b13⟩
  have o14 := ok_law_step (cl := (fun _ => 0)) (P := l.prog) (w := w) (mg := mg) (base := base) F14 c_law_meets
  have c_law_step : Cal l.prog w K mg base CX0 "_law_step" ["one", "other"] 2 (sp_law_step K (fun _ => 0)) f14 _ := ⟨o14, PySem.W.mg_of X G a14, k14, b14⟩
  have o15 := ok_law_free_order (cl := (fun _ => 0)) (P := l.prog) (w := w) (mg := mg) (base := base) F15 c_law_step c_law_draw (PySem.W.mg_none_of X G z_len) (PySem.W.mg_none_of X G z_range)
  have c_law_free_order : Cal l.prog w K mg base CX0 "_law_free_order" ["spring", "web"] 3 (sp_law_free_order K (fun _ => 0)) f15 _ := ⟨o15, PySem.W.mg_of X G a15, k15, b15⟩
  have o16 := ok_law_whole (cl := (fun _ => 0)) (P := l.prog) (w := w) (mg := mg) (base := base) F16 (PySem.W.mg_none_of X G z_isinstance) (PySem.W.mg_none_of X G z_int) (PySem.W.mg_none_of X G z_bool)
  have c_law_whole : Cal l.prog w K mg base CX0 "_law_whole" ["found"] 1 (sp_law_whole K (fun _ => 0)) f16 _ := ⟨o16, PySem.W.mg_of X G a16, k16, b16⟩
  have o17 := ok_law_rows (cl := (fun _ => 0)) (P := l.prog) (w := w) (mg := mg) (base := base) F17 c_law_whole (PySem.W.mg_none_of X G z_isinstance) (PySem.W.mg_none_of X G z_list) (PySem.W.mg_none_of X G z_len) (PySem.W.mg_none_of X G z_tuple) (PySem.W.mg_none_of X G z_all)
  have c_law_rows : Cal l.prog w K mg base CX0 "_law_rows" ["found", "due"] 2 (sp_law_rows K (fun _ => 0)) f17 _ := ⟨o17, PySem.W.mg_of X G a17, k17, b17⟩
  have o18 := ok_law_parts (cl := (fun _ => 0)) (P := l.prog) (w := w) (mg := mg) (base := base) F18 (PySem.W.mg_none_of X G z_range) (PySem.W.mg_none_of X G z_len)
  have c_law_parts : Cal l.prog w K mg base CX0 "_law_parts" ["web", "told", "cut"] 1 (sp_law_parts K (fun _ => 0)) f18 _ := ⟨o18, PySem.W.mg_of X G a18, k18, b18⟩
  have o19 := ok_law (cl := (fun _ => 0)) (P := l.prog) (w := w) (mg := mg) (base := base) F19 c_law_spring c_law_web c_notes c_law_rows c_law_free_order c_enough c_law_draw c_law_parts (PySem.W.mg_none_of X G z_list) (PySem.W.mg_none_of X G z_sorted) (PySem.W.mg_none_of X G z_set) (PySem.W.mg_none_of X G z_len) (PySem.W.mg_none_of X G z_min) (PySem.W.mg_none_of X G z_range)
  refine FnOk.imp o19 fun vs H Q E hq => ?_
  obtain ⟨a, ns, rfl, hS, hl, q⟩ := hq
  refine ⟨[], H, .ref a, ns, rfl, ⟨Same.refl _, (fun r hr => nomatch hr), List.nodup_nil, (fun r hr => nomatch hr)⟩, ⟨a, _, rfl, ints_dl, .inl hS⟩, run_mono' (law_true hl) fun r hr v H' Ho' e z d => ?_⟩
  subst hr
  rw [d_bool d]
  exact q H'
end M
open PySem PySem.W PyProof.Rows
set_option maxHeartbeats 0 in
theorem PySem.Challenge.cw_fewnotes_k29_whole_notes_in_other_orders_holds : PySem.Challenge.rw_fewnotes_k29_whole_notes_in_other_orders.Holds := by
  w_on; o_law; k_head; (case hw => w_witness2)
  k_fill
  refine L2.walk_of (l := PySem.Challenge.rw_fewnotes_k29_whole_notes_in_other_orders) (n := 63) (k := 5) (x := "script") (CX := fun _ => L2.CX0) (sp := fun w => M.spLaw _) rfl (by decide) rfl ⟨rfl, by decide, by decide⟩ (fun w h Y => PySem.W.kIn_of Y) ?F (fun _ _ a ns hl _ hS => ⟨a, ns, rfl, hS, hl, fun _ => rfl⟩) (fun _ _ _ _ _ h => h)
  case F =>
    intro w mg fa h KX G hmg
    refine' M.all_mk KX G hmg ?a1 ?l1 ?c1 ?k1 ?a2 ?l2 ?c2 ?k2 ?a3 ?l3 ?c3 ?k3 ?a4 ?l4 ?c4 ?k4 ?a5 ?l5 ?c5 ?k5 ?a6 ?l6 ?c6 ?k6 ?a7 ?l7 ?c7 ?k7 ?a8 ?l8 ?c8 ?k8 ?a9 ?l9 ?c9 ?k9 ?a10 ?l10 ?c10 ?k10 ?a11 ?l11 ?c11 ?k11 ?a12 ?l12 ?c12 ?k12 ?a13 ?l13 ?c13 ?k13 ?a14 ?l14 ?c14 ?k14 ?a15 ?l15 ?c15 ?k15 ?a16 ?l16 ?c16 ?k16 ?a17 ?l17 ?c17 ?k17 ?a18 ?l18 ?c18 ?k18 ?a19 ?l19 ?c19 ?k19 ?z_len ?z_range ?z_zip ?z_max ?z_sorted ?z_list ?z_abs ?z_int ?z_isinstance ?z_bool ?z_tuple ?z_all ?z_set ?z_min ?g_HANDS
    (case a1 => k_is); (case l1 => k_is); (case c1 => k_is); (case k1 => k_is); (case a2 => k_is); (case l2 => k_is); (case c2 => k_is); (case k2 => k_is); (case a3 => k_is); (case l3 => k_is); (case c3 => k_is); (case k3 => k_is); (case a4 => k_is); (case l4 => k_is); (case c4 => k_is); (case k4 => k_is); (case a5 => k_is); (case l5 => k_is); (case c5 => k_is); (case k5 => k_is); (case a6 => k_is); (case l6 => k_is); (case c6 => k_is); (case k6 => k_is); (case a7 => k_is); (case l7 => k_is); (case c7 => k_is); (case k7 => k_is); (case a8 => k_is); (case l8 => k_is); (case c8 => k_is); (case k8 => k_is); (case a9 => k_is); (case l9 => k_is); (case c9 => k_is); (case k9 => k_is); (case a10 => k_is); (case l10 => k_is); (case c10 => k_is); (case k10 => k_is); (case a11 => k_is); (case l11 => k_is); (case c11 => k_is); (case k11 => k_is); (case a12 => k_is); (case l12 => k_is); (case c12 => k_is); (case k12 => k_is); (case a13 => k_is); (case l13 => k_is); (case c13 => k_is); (case k13 => k_is); (case a14 => k_is); (case l14 => k_is); (case c14 => k_is); (case k14 => k_is); (case a15 => k_is); (case l15 => k_is); (case c15 => k_is); (case k15 => k_is); (case a16 => k_is); (case l16 => k_is); (case c16 => k_is); (case k16 => k_is); (case a17 => k_is); (case l17 => k_is); (case c17 => k_is); (case k17 => k_is); (case a18 => k_is); (case l18 => k_is); (case c18 => k_is); (case k18 => k_is); (case a19 => k_is); (case l19 => k_is); (case c19 => k_is); (case k19 => k_is); (case z_len => k_is); (case z_range => k_is); (case z_zip => k_is); (case z_max => k_is); (case z_sorted => k_is); (case z_list => k_is); (case z_abs => k_is); (case z_int => k_is); (case z_isinstance => k_is); (case z_bool => k_is); (case z_tuple => k_is); (case z_all => k_is); (case z_set => k_is); (case z_min => k_is); (case g_HANDS => k_is)

